import PyProof.Rows.All
import Wide.All
import OpenK.AllK
import Wide.FinOn
import HandS.ForMost
import HandS.ForExc
import HandS.Wide
import HandS.Lambda
import HandS.IsInst
import HandS.TupAny
import HandS.TupMul
import PyProof.ListStr
import PyProof.TupleOfStr
import PyProof.StrOps2
import HandS.Zip
import HandS.Walk
import HandS.Defaults
import HandS.Style
import KE.GoesMore
import KE.GoesEnum
import HandS.TryMany
import HandS.ExcOwn
import HandS.SortInts
import HandS.RaiseMore
import HandS.Conv
import KE.KRevSl
import HandS.ExcIs
import HandS.ExcField
import KE.KExcIs
import HandS.ExcInit
import KE.DataMinMax
import HandS.Replace
import HandS.Head0
import HandS.Head1
import HandS.Head2
import HandS.HeadEnd
import HandS.HeadHook1
import HandS.HeadHook2
import HandS.HeadHook3
import HandS.HeadHook4
import HandS.HeadWalk
import HandS.NestedK
import HandS.EndTab
import PyProof.ReprRoads
import PyProof.ReprDict
import HandS.Dict
import PyProof.EqKinds
import PyProof.FactsAll.dict_1
import PyProof.FactsAll.subtypes
import PyProof.StrLawsFirst
import PyProof.Rows.StrCountLaw
import PySem.Challenge.RW_evenduties_k14_whole_even_rounds
set_option Elab.async false
set_option linter.all false
set_option maxRecDepth 100000
set_option maxHeartbeats 4000000
namespace Q
open PySem L2
inductive D where
  | non | bl (b : Bool) | int (i : Int) | str (x : Str)
  | tup (xs : List D) | lst (xs : List D)
  | ins (C : Nat) (fs : List (Str × D))
  | dct (kvs : List (Key × D))
  | ptr (k : Nat) | obj (k : Nat) | src (ns : List Int) | fn (id : Nat)
  | exc (c : Nat) (args : List D)
structure Store where
  L : List (Option (List D))
  O : List (Nat × List (Str × D))
def Store.get (S : Store) (k : Nat) : Option (List D) := match S.L[k]? with
  | some (some xs) => some xs
  | _ => none
def Store.put (S : Store) (k : Nat) (xs : List D) : Store := ⟨S.L.set k (some xs), S.O⟩
def Store.del (S : Store) (k : Nat) : Store := ⟨S.L.set k none, S.O⟩
def Store.new (S : Store) (xs : List D) : Store := ⟨S.L ++ [some xs], S.O⟩
def Store.cut (S : Store) (n : Nat) : Store := ⟨S.L.take n, S.O⟩
abbrev Sl := List (Option D)
structure Ex where
  cls : Nat
  args : List D
inductive Res (α : Type) where
  | ok (a : α) (S : Store) | ex (e : Ex) (S : Store) | err
@[inline] def Res.bind {α β : Type} (r : Res α) (k : α → Store → Res β) : Res β := match r with
  | .ok a S => k a S
  | .ex e S => .ex e S
  | .err => .err
inductive Fl where
  | nx (s : Sl) | ret (d : D) | bk (s : Sl) | ct (s : Sl) | ex (e : Ex) (s : Sl)
abbrev RS := Option (Fl × Store)
abbrev TE := Sl → Store → Res D
abbrev TA := Sl → Store → Res (List D)
abbrev TSt := Sl → Store → RS
abbrev CallT := Nat → List D → Store → Res D
mutual
def D.flat : D → Bool
  | .ptr _ => false
  | .tup xs => flats xs
  | .lst xs => flats xs
  | .ins _ fs => flatf fs
  | .dct ks => flatk ks
  | .fn id => id != 0
  | .exc _ _ => false
  | _ => true
def flats : List D → Bool
  | [] => true
  | d :: ds => d.flat && flats ds
def flatf : List (Str × D) → Bool
  | [] => true
  | (_, d) :: ds => d.flat && flatf ds
def flatk : List (Key × D) → Bool
  | [] => true
  | (_, d) :: ds => d.flat && flatk ds
end
mutual
def D.pd : D → Option PyData
  | .non => some .none
  | .bl b => some (.bool b)
  | .int i => some (.int i)
  | .str x => some (.str x)
  | .tup xs => (pds xs).map .tuple
  | .lst xs => (pds xs).map .list
  | _ => none
def pds : List D → Option (List PyData)
  | [] => some []
  | d :: ds => match d.pd, pds ds with
    | some e, some es => some (e :: es)
    | _, _ => none
end
def itemsL (S : Store) : D → Option (List D)
  | .lst xs => some xs
  | .ptr k => S.get k
  | _ => none
def itemsLT (S : Store) : D → Option (List D)
  | .tup xs => some xs
  | d => itemsL S d
def pdT (S : Store) : D → Option PyData
  | .ptr k => match S.get k with
    | some xs => (pds xs).map .list
    | none => none
  | d => d.pd
abbrev Op1 := D → Store → Option (D × Store)
abbrev Op2 := D → D → Store → Option (D × Store)
abbrev OpN := List D → Store → Option (D × Store)
def ofO : Option (D × Store) → Res D
  | some (d, S) => .ok d S
  | none => .err
def eV (i : Nat) : TE := fun s S => match s[i]? with
  | some (some d) => .ok d S
  | _ => .err
def eC (d : D) : TE := fun _ S => .ok d S
def e1 (f : Op1) (a : TE) : TE := fun s S => (a s S).bind fun x S1 => ofO (f x S1)
def e2 (f : Op2) (a b : TE) : TE := fun s S => (a s S).bind fun x S1 => (b s S1).bind fun y S2 => ofO (f x y S2)
def eArgs : List TE → TA
  | [] => fun _ S => .ok [] S
  | a :: as => fun s S => (a s S).bind fun x S1 => (eArgs as s S1).bind fun xs S2 => .ok (x :: xs) S2
def eN (f : OpN) (as : List TE) : TE := fun s S => (eArgs as s S).bind fun xs S1 => ofO (f xs S1)
def eM (chk : D → Store → Bool) (f : OpN) (a : TE) (as : List TE) : TE := fun s S => (a s S).bind fun x S1 => if chk x S1 then (eArgs as s S1).bind fun xs S2 => ofO (f (x :: xs) S2) else .err
def isStrD : D → Store → Bool
  | .str _, _ => true
  | _, _ => false
def isLstD (d : D) (S : Store) : Bool := (itemsL S d).isSome
def eCall (c : CallT) (id : Nat) (as : List TE) : TE := fun s S => (eArgs as s S).bind fun xs S1 => c id xs S1
def asB (d : D) (S : Store) (k : Bool → Store → Res D) : Res D := match d with
  | .bl b => k b S
  | _ => .err
def eAnd (a b : TE) : TE := fun s S => (a s S).bind fun x S1 => asB x S1 fun c S2 => if c then b s S2 else .ok (.bl false) S2
def eOr (a b : TE) : TE := fun s S => (a s S).bind fun x S1 => asB x S1 fun c S2 => if c then .ok (.bl true) S2 else b s S2
def eNot (a : TE) : TE := fun s S => (a s S).bind fun x S1 => asB x S1 fun c S2 => .ok (.bl (!c)) S2
def eIf (t a b : TE) : TE := fun s S => (t s S).bind fun x S1 => asB x S1 fun c S2 => if c then a s S2 else b s S2
def eChain (f g : Op2) (a b c : TE) : TE := fun s S => (a s S).bind fun x S1 => (b s S1).bind fun y S2 => (ofO (f x y S2)).bind fun r S3 => asB r S3 fun k S4 =>
  if k then (c s S4).bind fun z S5 => ofO (g y z S5) else .ok (.bl false) S4
def eTup (as : List TE) : TE := fun s S => (eArgs as s S).bind fun xs S1 => .ok (.tup xs) S1
def eLst (as : List TE) : TE := fun s S => (eArgs as s S).bind fun xs S1 => .ok (.lst xs) S1
def eLstM (as : List TE) : TE := fun s S => (eArgs as s S).bind fun xs S1 => if flats xs then .ok (.ptr S1.L.length) (S1.new xs) else .err
inductive Pat where
  | nm (i : Nat) | tp (ps : List Pat)
mutual
def Pat.slots : Pat → List Nat
  | .nm i => [i]
  | .tp ps => Pat.slotss ps
def Pat.slotss : List Pat → List Nat
  | [] => []
  | p :: ps => p.slots ++ Pat.slotss ps
end
def wipeS (s : Sl) : List Nat → Sl
  | [] => s
  | v :: vs => (wipeS s vs).set v none
mutual
def Pat.put : Pat → D → Sl → Option Sl
  | .nm i, d, s => some (s.set i (some d))
  | .tp ps, .tup ds, s => Pat.puts ps ds s
  | .tp _, _, _ => none
def Pat.puts : List Pat → List D → Sl → Option Sl
  | [], [], s => some s
  | p :: ps, d :: ds, s => match p.put d s with
    | some s1 => Pat.puts ps ds s1
    | none => none
  | _, _, _ => none
end
abbrev Src := Sl → Store → Res (List D)
def sSeq (a : TE) : Src := fun s S => (a s S).bind fun x S1 => match x with
  | .lst xs => .ok xs S1
  | .tup xs => .ok xs S1
  | .str z => .ok (z.cps.toList.map fun c => .str ⟨#[c]⟩) S1
  | _ => .err
def rngOk (i : Int) : Bool := decide (-(2 ^ 62) ≤ i) && decide (i < 2 ^ 62)
def rngL (lo : Int) (n : Nat) : List D := (List.range n).map fun (i : Nat) => .int (lo + i)
def sN (f : List D → Option (List D)) (as : List TE) : Src := fun s S => (eArgs as s S).bind fun xs S1 => match f xs with
  | some ds => .ok ds S1
  | none => .err
def iRng1 : List D → Option (List D)
  | [.int j] => if rngOk j then some (rngL 0 j.toNat) else none
  | _ => none
def iRng2 : List D → Option (List D)
  | [.int i, .int j] => if rngOk i && rngOk j then some (rngL i (j - i).toNat) else none
  | _ => none
def iEnumL : List D → Option (List D)
  | [.lst xs] => some ((List.range xs.length).zipWith (fun i d => .tup [.int (i : Nat), d]) xs)
  | _ => none
def iZipA : List D → Option (List D)
  | [.lst xs, .lst ys] => some (List.zipWith (fun d e => .tup [d, e]) xs ys)
  | [.tup xs, .tup ys] => some (List.zipWith (fun d e => .tup [d, e]) xs ys)
  | _ => none
def chs (z : Str) : List D := z.cps.toList.map fun c => .str ⟨#[c]⟩
def iZipS : List D → Option (List D)
  | [.str x, .str y] => some (List.zipWith (fun d e => .tup [d, e]) (chs x) (chs y))
  | _ => none
def iOr (f g : List D → Option (List D)) : List D → Option (List D) := fun xs => match f xs with
  | some ds => some ds
  | none => g xs
def iZip : List D → Option (List D) := iOr iZipA iZipS
def iEnumS : List D → Option (List D)
  | [.str x] => some (List.zipWith (fun d e => .tup [d, e]) ((List.range x.cps.size).map fun (i : Nat) => .int (i : Nat)) (chs x))
  | _ => none
def iEnum : List D → Option (List D) := iOr iEnumL iEnumS
def lineOk (n : Nat) : Bool := decide (n < sizeLine)
def lcL (p : Pat) (t e : TE) (s : Sl) : List D → List D → Store → Res D
  | [], acc, S => .ok (.lst acc) S
  | d :: ds, acc, S => match p.put d s with
    | none => .err
    | some s1 => match t s1 S with
      | .ok (.bl true) S1 => match e s1 S1 with
        | .ok r S2 => if lineOk acc.length then lcL p t e s ds (acc ++ [r]) S2 else .err
        | _ => .err
      | .ok (.bl false) S1 => lcL p t e s ds acc S1
      | _ => .err
def eLc (vs : List Nat) (p : Pat) (src : Src) (t e : TE) : TE := fun s S => (src s S).bind fun ds S1 => lcL p t e (wipeS s vs) ds [] S1
def onE (r : Res D) (s : Sl) (k : D → Store → RS) : RS := match r with
  | .ok d S => k d S
  | .ex e S => some (.ex e s, S)
  | .err => none
def tNo : TSt := fun _ _ => none
def tPass : TSt := fun s S => some (.nx s, S)
def tBrk : TSt := fun s S => some (.bk s, S)
def tCnt : TSt := fun s S => some (.ct s, S)
def tSeq (a b : TSt) : TSt := fun s S => match a s S with
  | some (.nx s1, S1) => b s1 S1
  | r => r
def tExpr (a : TE) : TSt := fun s S => onE (a s S) s fun _ S1 => some (.nx s, S1)
def tRet (a : TE) : TSt := fun s S => onE (a s S) s fun d S1 => some (.ret d, S1)
def tSet (p : Pat) (a : TE) : TSt := fun s S => onE (a s S) s fun d S1 => match p.put d s with
  | some s1 => some (.nx s1, S1)
  | none => none
def asBS (d : D) (S : Store) (k : Bool → Store → RS) : RS := match d with
  | .bl b => k b S
  | _ => none
def tIf (t : TE) (a b : TSt) : TSt := fun s S => onE (t s S) s fun x S1 => asBS x S1 fun c S2 => if c then a s S2 else b s S2
def setL (o i v : D) (S : Store) : Option Store := match o, i with
  | .ptr k, .int j => match S.get k with
    | some xs => match ixN xs.length j with
      | some n => if v.flat then some (S.put k (xs.set n v)) else none
      | none => none
    | none => none
  | _, _ => none
def tSetIx (o i v : TE) : TSt := fun s S => onE (v s S) s fun x S1 => onE (o s S1) s fun y S2 => onE (i s S2) s fun z S3 => match setL y z x S3 with
  | some S4 => some (.nx s, S4)
  | none => none
def forL (p : Pat) (b : TSt) : List D → TSt
  | [], s, S => some (.nx s, S)
  | d :: ds, s, S => match p.put d s with
    | none => none
    | some s1 => match b s1 S with
      | some (.nx s2, S2) => forL p b ds s2 S2
      | some (.ct s2, S2) => forL p b ds s2 S2
      | some (.bk s2, S2) => some (.nx s2, S2)
      | some (.ret d, S2) => some (.ret d, S2)
      | some (.ex e s2, S2) => some (.ex e s2, S2)
      | none => none
def tFor (p : Pat) (src : Src) (b : TSt) : TSt := fun s S => match src s S with
  | .ok ds S1 => forL p b ds s S1
  | .ex e S1 => some (.ex e s, S1)
  | .err => none
def whL (t : TE) (b : TSt) : Nat → TSt
  | 0, _, _ => none
  | n + 1, s, S => onE (t s S) s fun x S1 => asBS x S1 fun c S2 => if c then match b s S2 with
      | some (.nx s3, S3) => whL t b n s3 S3
      | some (.ct s3, S3) => whL t b n s3 S3
      | some (.bk s3, S3) => some (.nx s3, S3)
      | some (.ret d, S3) => some (.ret d, S3)
      | some (.ex e s3, S3) => some (.ex e s3, S3)
      | none => none
    else some (.nx s, S2)
def whMost : Nat := 2 ^ 60
def tWhile (t : TE) (b : TSt) : TSt := whL t b whMost
def frzS (i : Nat) (s : Sl) (S : Store) : Option (Sl × Store) := match s[i]? with
  | some (some (.ptr k)) => match S.get k with
    | some xs => some (s.set i (some (.lst xs)), S.del k)
    | none => none
  | _ => none
def tFrz (i : Nat) (t : TSt) : TSt := fun s S => match frzS i s S with
  | some (s1, S1) => t s1 S1
  | none => none
structure FnD where
  np : Nat
  ns : Nat
  keep : Bool
  body : CallT → TSt
def leave (keep : Bool) (S : Store) (v : D) (S' : Store) : Res D := if keep then .ok v S' else if v.flat then .ok v (S'.cut S.L.length) else .err
def runFn (d : FnD) (c : CallT) (vs : List D) (S : Store) : Res D :=
  if vs.length = d.np then match d.body c (vs.map some ++ List.replicate (d.ns - d.np) none) S with
    | some (.ret v, S') => leave d.keep S v S'
    | some (.nx _, S') => leave d.keep S .non S'
    | some (.ex e _, S') => if d.keep then .ex e S' else if flats e.args then .ex e (S'.cut S.L.length) else .err
    | _ => .err
  else .err
abbrev Prog := Nat → Option FnD
def callN (P : Prog) : Nat → CallT
  | 0 => fun _ _ _ => .err
  | 1 => fun f vs S => match P f with
    | none => .err
    | some d => runFn d (fun _ _ _ => .err) vs S
  | n + 2 => fun f vs S => match P f with
    | none => if f = 999999 then .ok .non S else if 1000000 ≤ f then callN P n (f - 1000000) vs S else .err
    | some d => runFn d (callN P (n + 1)) vs S
theorem callN_eq {P : Prog} {n id : Nat} {d : FnD} {vs : List D} {S : Store} (h : P id = some d) : callN P (n + 1) id vs S = runFn d (callN P n) vs S := by
  cases n with
  | zero =>
    show (match P id with | none => Res.err | some d => runFn d (fun _ _ _ => .err) vs S) = _
    rw [h]
    rfl
  | succ n =>
    show (match P id with | none => _ | some d => runFn d (callN P (n + 1)) vs S) = _
    rw [h]
theorem callN_low {P : Prog} {n id : Nat} {vs : List D} {S : Store} (h : P (id + 1000000) = none) : callN P (n + 2) (id + 1000000) vs S = callN P n id vs S := by
  show (match P (id + 1000000) with | none => if id + 1000000 = 999999 then Res.ok D.non S else if 1000000 ≤ id + 1000000 then callN P n (id + 1000000 - 1000000) vs S else Res.err | some d => runFn d (callN P (n + 1)) vs S) = _
  rw [h]
  show (if id + 1000000 = 999999 then Res.ok D.non S else if 1000000 ≤ id + 1000000 then callN P n (id + 1000000 - 1000000) vs S else Res.err) = _
  rw [if_neg (by omega), if_pos (by omega), Nat.add_sub_cancel]
def deep (c : CallT) : Bool := match c 999999 [] ⟨[], []⟩ with
  | .ok _ _ => true
  | _ => false
theorem deep_low {P : Prog} {n : Nat} (h : P 999999 = none) : deep (callN P (n + 2)) = true := by
  have e : callN P (n + 2) 999999 [] ⟨[], []⟩ = .ok .non ⟨[], []⟩ := by
    show (match P 999999 with | none => if 999999 = 999999 then Res.ok D.non _ else if 1000000 ≤ 999999 then callN P n (999999 - 1000000) [] _ else Res.err | some d => runFn d (callN P (n + 1)) [] _) = _
    rw [h]
    show (if 999999 = 999999 then Res.ok D.non _ else _) = _
    rw [if_pos rfl]
  unfold deep
  rw [e]
theorem deep_zero {P : Prog} : deep (callN P 0) = false := rfl
theorem deep_one {P : Prog} (h : P 999999 = none) : deep (callN P 1) = false := by
  have e : callN P 1 999999 [] ⟨[], []⟩ = .err := by
    show (match P 999999 with | none => Res.err | some d => _) = _
    rw [h]
  unfold deep
  rw [e]
def oRet (d : D) (S : Store) : Option (D × Store) := some (d, S)
def oAdd : Op2 := fun x y S => match x, y with
  | .int i, .int j => some (.int (i + j), S)
  | .str a, .str b => if a.length + b.length ≤ sizeLine then some (.str (a ++ b), S) else none
  | .lst a, .lst b => if a.length + b.length ≤ sizeLine then some (.lst (a ++ b), S) else none
  | .ptr k, .lst b => match S.get k with
    | some a => if a.length + b.length ≤ sizeLine then some (.lst (a ++ b), S) else none
    | _ => none
  | .tup a, .tup b => if a.length + b.length ≤ sizeLine then some (.tup (a ++ b), S) else none
  | _, _ => none
def oSub : Op2 := fun x y S => match x, y with
  | .int i, .int j => some (.int (i - j), S)
  | _, _ => none
def smallI (i : Int) : Bool := decide (-(2 ^ 64) < i) && decide (i < 2 ^ 64)
def midI (i : Int) : Bool := decide (i.natAbs.log2 < 400000)
def oMulL : Op2 := fun x y S => match x, y with
  | .int i, .int j => if smallI i || smallI j || (midI i && midI j) then some (.int (i * j), S) else none
  | .lst a, .int j => if decide (-(2 ^ 63) ≤ j) && decide (j < 2 ^ 63) && decide (a.length * j.toNat ≤ sizeLine) then some (.lst ((List.replicate j.toNat a).flatten), S) else none
  | .str a, .int j => if decide (0 ≤ j) && decide (j ≤ 100000) && decide (a.length ≤ 10000) && decide (a.length * j.toNat ≤ sizeLine) then some (.str ⟨((List.replicate j.toNat a.cps.toList).flatten).toArray⟩, S) else none
  | .tup a, .int j => if decide (a ≠ [] ∧ 2 ≤ j ∧ j ≤ 1000 ∧ a.length ≤ 1000) then some (.tup ((List.replicate j.toNat a).flatten), S) else none
  | _, _ => none
def divOk (j : Int) : Bool := decide (j ≠ 0) && decide (j.natAbs < 1073741824) || decide (0 < j) && decide (j.natAbs.log2 < 9000)
def oDiv : Op2 := fun x y S => match x, y with
  | .int i, .int j => if divOk j then some (.int (i.fdiv j), S) else none
  | _, _ => none
def oMod : Op2 := fun x y S => match x, y with
  | .int i, .int j => if j = 0 then none else some (.int (i.fmod j), S)
  | _, _ => none
def oPow : Op2 := fun x y S => match x, y with
  | .int i, .int j => if decide (0 ≤ j) && decide (j ≤ 1000000) && decide (i.natAbs < 2 ^ 64) then some (.int (i ^ j.toNat), S) else none
  | _, _ => none
def oNeg : Op1 := fun x S => match x with
  | .int i => some (.int (-i), S)
  | _ => none
def oCmp (f : Int → Int → Bool) : Op2 := fun x y S => match x, y with
  | .int i, .int j => some (.bl (f i j), S)
  | _, _ => none
def oLt : Op2 := oCmp fun i j => decide (i < j)
def oLe : Op2 := oCmp fun i j => decide (i ≤ j)
def oGt : Op2 := oCmp fun i j => decide (j < i)
def oGe : Op2 := oCmp fun i j => decide (j ≤ i)
def eqD (x y : D) (S : Store) : Option Bool := match x, y with
  | .int i, .int j => some (decide (i = j))
  | .str a, .str b => some (decide (a = b))
  | .bl a, .bl b => some (decide (a = b))
  | x, y => match pdT S x, pdT S y with
    | some d, some e => if SeqAt.shaped d && SeqAt.shaped e then some (PyData.eqv d e) else none
    | _, _ => none
def oEq : Op2 := fun x y S => match eqD x y S with
  | some b => some (.bl b, S)
  | none => none
def oNe : Op2 := fun x y S => match eqD x y S with
  | some b => some (.bl (!b), S)
  | none => none
def isN : D → Bool
  | .non => true
  | _ => false
def oIsN : Op1 := fun x S => some (.bl (isN x), S)
def oNotN : Op1 := fun x S => some (.bl (!isN x), S)
def oIx : Op2 := fun x y S => match x, y with
  | .str z, .int i => if z.length ≤ sizeLine then match atI z.cps.toList i with
      | some c => some (.str ⟨#[c]⟩, S)
      | none => none
    else none
  | x, .int i => match itemsLT S x with
    | some xs => match atI xs i with
      | some d => some (d, S)
      | none => none
    | none => none
  | _, _ => none
def oAbs : OpN := fun xs S => match xs with
  | [.int i] => some (.int (if i < 0 then -i else i), S)
  | _ => none
def oInt : OpN := fun xs S => match xs with
  | [.int i] => some (.int i, S)
  | [.bl b] => some (.int (if b then 1 else 0), S)
  | [.str z] => match PySem.intText? z with
    | some n => if z.length ≤ 640 then some (.int n, S) else none
    | none => none
  | _ => none
def oLen : OpN := fun xs S => match xs with
  | [.str z] => if z.length ≤ sizeLine then some (.int z.length, S) else none
  | [d] => match itemsLT S d with
    | some ds => some (.int ds.length, S)
    | none => none
  | _ => none
def oMax2 : OpN := fun xs S => match xs with
  | [.int i, .int j] => some (.int (if j > i then j else i), S)
  | _ => none
def oMin2 : OpN := fun xs S => match xs with
  | [.int i, .int j] => some (.int (if j < i then j else i), S)
  | _ => none
def intsOf : List D → Option (List Int)
  | [] => some []
  | .int i :: ds => (intsOf ds).map (i :: ·)
  | _ :: _ => none
def blsOf : List D → Option (List Bool)
  | [] => some []
  | .bl b :: ds => (blsOf ds).map (b :: ·)
  | _ :: _ => none
def strsOf : List D → Option (List Str)
  | [] => some []
  | .str z :: ds => (strsOf ds).map (z :: ·)
  | _ :: _ => none
def oAll : OpN := fun xs S => match xs with
  | [.lst ds] => match blsOf ds with
    | some bs => some (.bl (bs.all id), S)
    | none => none
  | _ => none
def oTupleOf : OpN := fun xs S => match xs with
  | [.str z] => if z.length ≤ sizeLine then some (.tup (z.cps.toList.map fun c => .str ⟨#[c]⟩), S) else none
  | [d] => match itemsLT S d with
    | some ds => some (.tup ds, S)
    | none => none
  | _ => none
def oListOf : OpN := fun xs S => match xs with
  | [.str z] => if z.length ≤ sizeLine then some (.lst (z.cps.toList.map fun c => .str ⟨#[c]⟩), S) else none
  | [d] => match itemsLT S d with
    | some ds => some (.lst ds, S)
    | none => none
  | _ => none
def oJoin : OpN := fun xs S => match xs with
  | [.str sep, .lst ds] => match strsOf ds with
    | some ss => if (ss.map (·.length)).sum + ss.length * sep.length ≤ 16777216 then some (.str (Txt.join sep ss), S) else none
    | none => none
  | _ => none
def oAppend : OpN := fun xs S => match xs with
  | [.ptr k, d] => match S.get k with
    | some ds => if lineOk ds.length && d.flat then some (.non, S.put k (ds ++ [d])) else none
    | none => none
  | _ => none
def oPop : OpN := fun xs S => match xs with
  | [.ptr k] => match S.get k with
    | some ds => match ds[ds.length - 1]? with
      | some d => some (d, S.put k ds.dropLast)
      | none => none
    | none => none
  | _ => none
inductive Ty where
  | int | bool | str | tuple | list | dict
def Ty.of (S : Store) : D → Option (List Ty)
  | .non => some []
  | .bl _ => some [.bool, .int]
  | .int _ => some [.int]
  | .str _ => some [.str]
  | .tup _ => some [.tuple]
  | .lst _ => some [.list]
  | .src _ => some [.list]
  | .dct _ => some [.dict]
  | .ptr k => match S.get k with
    | some _ => some [.list]
    | none => none
  | _ => none
def Ty.eqb : Ty → Ty → Bool
  | .int, .int => true
  | .bool, .bool => true
  | .str, .str => true
  | .tuple, .tuple => true
  | .list, .list => true
  | .dict, .dict => true
  | _, _ => false
def oIsi (ts : List Ty) : Op1 := fun x S => match Ty.of S x with
  | some us => some (.bl (ts.any fun t => us.any (Ty.eqb t)), S)
  | none => none
def cutD {α : Type} (xs : List α) (lo hi : Option Int) : List α := (xs.drop (HT.sIx xs.length 0 lo)).take (HT.sIx xs.length xs.length hi - HT.sIx xs.length 0 lo)
def oCut (x : D) (lo hi : Option Int) (S : Store) : Option (D × Store) := match x with
  | .lst xs => some (.lst (cutD xs lo hi), S)
  | .tup xs => some (.tup (cutD xs lo hi), S)
  | .src ns => some (.lst ((cutD ns lo hi).map .int), S)
  | .str z => if z.length ≤ sizeLine then some (.str ⟨(cutD z.cps.toList lo hi).toArray⟩, S) else none
  | _ => none
def partK (k : Option Int → Store → Res D) (x : D) (S : Store) : Res D := match x with
  | .int i => k (some i) S
  | _ => .err
def ePart (a : TE) (s : Sl) (S : Store) (k : Option Int → Store → Res D) : Res D := (a s S).bind (partK k)
def eCutL (a lo : TE) : TE := fun s S => (a s S).bind fun x S1 => ePart lo s S1 fun l S2 => ofO (oCut x l none S2)
def eCutU (a hi : TE) : TE := fun s S => (a s S).bind fun x S1 => ePart hi s S1 fun h S2 => ofO (oCut x none h S2)
def eCutLU (a lo hi : TE) : TE := fun s S => (a s S).bind fun x S1 => ePart lo s S1 fun l S2 => ePart hi s S2 fun h S3 => ofO (oCut x l h S3)
def isSub (c d : Nat) : Bool := c == d || d == 0
def tRaise (c : Nat) : TSt := fun s S => some (.ex ⟨c, []⟩ s, S)
def tRaise1 (dp : Bool) (c : Nat) (ta : TE) : TSt := fun s S => if dp then match ta s S with
  | .ok d S1 => if d.flat then some (.ex ⟨c, [d]⟩ s, S1) else none
  | _ => none
  else none
def hFind (c : Nat) : List (Nat × TSt) → Option TSt
  | [] => none
  | (d, t) :: r => if isSub c d then some t else hFind c r
def noEx (r : RS) : RS := match r with
  | some (.ex _ _, _) => none
  | r => r
def tTryF (n : Nat) (cs : List Nat) (b : TSt) (hs : List (Nat × TSt)) : TSt := fun s S => match b s S with
  | some (.ex e _, S1) => if e.cls ∈ cs then match hFind e.cls hs with
      | some t => noEx (t (List.replicate n none) S1)
      | none => none
    else none
  | r => r
def oFld (cs : List Nat) : Op1 := fun x S => match x with
  | .exc k [w] => if k ∈ cs then some (w, S) else none
  | _ => none
def oIsE (cs : List Nat) (c : Nat) : Op1 := fun x S => match x with
  | .exc k as => if as.length > 1 then none else if k ∈ cs then some (.bl (if c = 1000 then true else isSub k c), S) else none
  | _ => none
def tTryAs (n i : Nat) (cs : List Nat) (b : TSt) (c : Nat) (su : TSt) : TSt := fun s S => match b s S with
  | some (.ex e _, S1) => if e.cls ∈ cs ∧ isSub e.cls c = true ∧ flats e.args = true then match su ((List.replicate n none).set i (some (.exc e.cls e.args))) S1 with
      | some (.ret d, S2) => if d.flat then some (.ret d, S2) else none
      | _ => none
    else none
  | r => r
def flatR (r : Res D) : Res D := match r with
  | .ok d S => if d.flat then .ok d S else .err
  | .ex e S => if flats e.args then .ex e S else .err
  | .err => .err
def eAct (i : Nat) (th : Store → Res D) : TE := fun s S => match s[i]? with
  | some (some (.fn 0)) => th S
  | _ => .err
def eTold (dp : Bool) (n : Nat) (b : (Store → Res D) → TSt) (te : TE) : TE := fun s S =>
  if dp then match b (fun S1 => flatR (te s S1)) (some (.fn 0) :: List.replicate n none) S with
  | some (.ret d, S') => if d.flat then .ok d S' else .err
  | some (.nx _, S') => .ok .non S'
  | _ => .err
  else .err
def srt (ns : List Int) : List Int := ns.mergeSort fun a b => decide (a ≤ b)
def srtS (xs : List Str) : List Str := xs.mergeSort fun a b => decide (a.cps.toList ≤ b.cps.toList)
def sortD (ds : List D) : Option D := match intsOf ds with
  | some ns => some (.lst ((srt ns).map .int))
  | none => match strsOf ds with
    | some ss => if ss.length < 64 then some (.lst ((srtS ss).map .str)) else none
    | none => none
def oSortedI : OpN := fun xs S => match xs with
  | [d] => match itemsL S d with
    | some ds => match sortD ds with
      | some e => some (e, S)
      | none => none
    | none => none
  | _ => none
def flatD : D → Bool
  | .non => true
  | .bl _ => true
  | .int _ => true
  | .str _ => true
  | _ => false
def eqF : D → D → Bool
  | .non, .non => true
  | .bl a, .bl b => a == b
  | .bl a, .int b => (if a then 1 else 0) == b
  | .int a, .bl b => a == (if b then 1 else 0)
  | .int a, .int b => a == b
  | .str a, .str b => a == b
  | _, _ => false
def signOf : D → Option Nat
  | .str z => match z.cps.toList with
    | [c] => some c
    | _ => none
  | _ => none
def inD (S : Store) (x y : D) : Option Bool := match y with
  | .str z => match signOf x with
    | some c => some (decide (c ∈ z.cps.toList))
    | none => none
  | y => match itemsLT S y with
    | some xs => if flatD x && xs.all flatD then some (xs.any fun z => eqF z x) else none
    | none => none
def eqS : D → D → Option Bool
  | .int i, .int j => some (decide (i = j))
  | .str a, .str b => some (decide (a = b))
  | .bl a, .bl b => some (decide (a = b))
  | _, _ => none
def oEqS : Op2 := fun x y S => match eqS x y with
  | some b => some (.bl b, S)
  | none => none
def oNeS : Op2 := fun x y S => match eqS x y with
  | some b => some (.bl (!b), S)
  | none => none
def minS (x : Str) (xs : List Str) : Str := xs.foldl (fun a y => if decide (y.cps.toList < a.cps.toList) = true then y else a) x
def oMinS : OpN := fun xs S => match xs with
  | [d] => match itemsL S d with
    | some ds => match strsOf ds with
      | some (x :: xs) => some (.str (minS x xs), S)
      | _ => none
    | none => none
  | _ => none
def oSIndex : OpN := fun xs S => match xs with
  | [.str a, .str b] => match Builtin.Str.occurrences a b 0 a.length 1 with
    | i :: _ => some (.int (i : Nat), S)
    | [] => none
  | _ => none
def oCountL : OpN := fun xs S => match xs with
  | [l, d] => match itemsL S l with
    | some ds => if flatD d && ds.all flatD then some (.int (ds.countP fun z => eqF z d : Nat), S) else none
    | none => none
  | _ => none
def oIndexL : OpN := fun xs S => match xs with
  | [l, d] => match itemsL S l with
    | some ds => if flatD d && ds.all flatD then match ds.findIdx? fun z => eqF z d with
      | some j => some (.int j, S)
      | none => none
      else none
    | none => none
  | _ => none
def oIn : Op2 := fun x y S => match inD S x y with
  | some b => some (.bl b, S)
  | none => none
def oNin : Op2 := fun x y S => match inD S x y with
  | some b => some (.bl (!b), S)
  | none => none
def oRev : Op1 := fun x S => match x with
  | .str z => if z.length ≤ sizeLine then some (.str ⟨z.cps.toList.reverse.toArray⟩, S) else none
  | x => match itemsL S x with
    | some xs => some (.lst xs.reverse, S)
    | none => none
def oAddM : Op2 := fun x y S => match oAdd x y S with
  | some (.lst zs, _) => if flats zs then some (.ptr S.L.length, S.new zs) else none
  | _ => none
def oLstRg : Op2 := fun x y S => match x, y with
  | .int i, .int j => if decide (-1000000000 ≤ i) && decide (i < 1000000000) && decide (-1000000000 ≤ j) && decide (j < 1000000000) && decide ((j - i).toNat ≤ 16777216) then some (.lst (rngL i (j - i).toNat), S) else none
  | _, _ => none
def oIsB (b : Bool) : Op1 := fun x S => match x with
  | .bl a => some (.bl (decide (a = b)), S)
  | _ => none
def intsL (S : Store) (d : D) : Option (List Int) := match itemsL S d with
  | some ds => intsOf ds
  | none => none
def maxI : List Int → Int
  | [] => 0
  | [x] => x
  | x :: xs => max x (maxI xs)
def minI : List Int → Int
  | [] => 0
  | [x] => x
  | x :: xs => min x (minI xs)
def oMaxL : OpN := fun xs S => match xs with
  | [d] => match intsL S d with
    | some ns => if 0 < ns.length then some (.int (maxI ns), S) else none
    | none => none
  | _ => none
def oMinL : OpN := fun xs S => match xs with
  | [d] => match intsL S d with
    | some ns => if 0 < ns.length then some (.int (minI ns), S) else none
    | none => none
  | _ => none
def oSum : OpN := fun xs S => match xs with
  | [d] => match intsL S d with
    | some ns => some (.int ns.sum, S)
    | none => none
  | _ => none
def oAny : OpN := fun xs S => match xs with
  | [.lst ds] => match blsOf ds with
    | some bs => some (.bl (bs.any id), S)
    | none => none
  | _ => none
def oCount : OpN := fun xs S => match xs with
  | [.str a, .str b] => some (.int (Txt.count a b), S)
  | _ => none
def oStrOf : OpN := fun xs S => match xs with
  | [.int i] => if i.natAbs.log2 < 1920 then some (.str (toString i), S) else none
  | [.str z] => some (.str z, S)
  | _ => none
def oExtend : OpN := fun xs S => match xs with
  | [.ptr k, .lst es] => match S.get k with
    | some ds => if decide (ds.length + es.length ≤ sizeLine) && flats es then some (.non, S.put k (ds ++ es)) else none
    | none => none
  | _ => none
def keyD : D → Option Key
  | .int i => some (.inl i)
  | .str x => some (.inr x)
  | _ => none
def pairsD : List D → Option (List (Key × D))
  | [] => some []
  | k :: v :: r => match keyD k, pairsD r with
    | some k', some r' => some ((k', v) :: r')
    | _, _ => none
  | _ => none
def nodupK : List Key → Bool
  | [] => true
  | k :: ks => !(ks.any fun j => decide (j = k)) && nodupK ks
def eDct (as : List TE) : TE := fun s S => (eArgs as s S).bind fun xs S1 => match pairsD xs with
  | some kvs => if nodupK (kvs.map (·.1)) then .ok (.dct kvs) S1 else .err
  | none => .err
def oRevA : Op1 := fun x S => match x with
  | .tup ds => some (.tup ds.reverse, S)
  | x => oRev x S
def keyP : Key → PyData
  | .inl i => .int i
  | .inr x => .str x
mutual
def D.rd : D → Option PyData
  | .non => some .none
  | .bl b => some (.bool b)
  | .int i => some (.int i)
  | .str x => some (.str x)
  | .tup xs => (rds xs).map .tuple
  | .lst xs => (rds xs).map .list
  | .dct kvs => (rdk kvs).map .dict
  | _ => none
def rds : List D → Option (List PyData)
  | [] => some []
  | d :: ds => match d.rd, rds ds with
    | some e, some es => some (e :: es)
    | _, _ => none
def rdk : List (Key × D) → Option (List (PyData × PyData))
  | [] => some []
  | (k, d) :: ds => match d.rd, rdk ds with
    | some e, some es => some ((keyP k, e) :: es)
    | _, _ => none
end
def oRepr : OpN := fun xs S => match xs with
  | [x] => match x.rd with
    | some p => if p.showable && decide (p.shown.length ≤ sizeLine) && decide (p.depth ≤ 150) then some (.str p.shown, S) else none
    | none => none
  | _ => none
def oEqK : Op2 := fun x y S => match x, y with
  | .tup _, .int _ => some (.bl false, S)
  | .lst _, .int _ => some (.bl false, S)
  | .dct _, .int _ => some (.bl false, S)
  | x, y => oEq x y S
end Q
set_option maxHeartbeats 1000000
namespace Q
open PySem L2
structure Wd where
  F : Hp
  al : Nat → Addr
  n : Nat
  ao : Nat → Addr
  m : Nat
structure Tb where
  cl : Nat → Addr
  fa : Nat → Addr
  tabs : List (Addr × Str)
  pin : List (Wd × Addr × Str)
  /-- the caught error: where it is, its class, its dict, its field -/
  ea : Addr := 0
  ec : Value := .none
  ed : Option Addr := none
  ef : Str := ""
mutual
def Rp (K : PySem.W.Frag) (T : Tb) (ω : Wd) : D → V → Prop
  | .non, v => v = .non
  | .bl b, v => v = .bl b
  | .int i, v => v = .int i
  | .str x, v => v = .str x
  | .tup ds, v => ∃ a vs, v = .ref a ∧ SqT K ω.F a vs ∧ Rps K T ω ds vs
  | .lst ds, v => ∃ a vs, v = .ref a ∧ ω.F a = some (.lst vs) ∧ Rps K T ω ds vs
  | .ins C fs, v => ∃ a dx gs, v = .ref a ∧ ω.F a = some (.ins (T.cl C) dx gs) ∧ Rpf K T ω fs gs
  | .dct kvs, v => ∃ a ws, v = .ref a ∧ ω.F a = some (.dK ws) ∧ Rpk K T ω kvs ws
  | .ptr k, v => k < ω.n ∧ v = .ref (ω.al k)
  | .obj k, v => k < ω.m ∧ v = .ref (ω.ao k)
  | .src ns, v => ∃ a, v = .ref a ∧ SqL K ω.F a (ns.map V.int)
  | .fn id, v => v = .ref (T.fa id)
  | .exc c args, v => v = .ref T.ea ∧ T.ec = .ref (T.cl c) ∧ ∃ ws, Rps K T ω args ws ∧ (ws = [] → T.ed = none) ∧ ∀ w, ws = [w] → ∃ d, T.ed = some d ∧ ω.F d = some (.xd [(T.ef, w)])
def Rps (K : PySem.W.Frag) (T : Tb) (ω : Wd) : List D → List V → Prop
  | [], vs => vs = []
  | d :: ds, vs => ∃ v ws, vs = v :: ws ∧ Rp K T ω d v ∧ Rps K T ω ds ws
def Rpf (K : PySem.W.Frag) (T : Tb) (ω : Wd) : List (Str × D) → List (Str × V) → Prop
  | [], gs => gs = []
  | (f, d) :: fs, gs => ∃ v hs, gs = (f, v) :: hs ∧ Rp K T ω d v ∧ Rpf K T ω fs hs
def Rpk (K : PySem.W.Frag) (T : Tb) (ω : Wd) : List (Key × D) → List (Key × V) → Prop
  | [], gs => gs = []
  | (f, d) :: fs, gs => ∃ v hs, gs = (f, v) :: hs ∧ Rp K T ω d v ∧ Rpk K T ω fs hs
end
structure Rl0 (K : PySem.W.Frag) (T : Tb) (ω : Wd) (S : Store) (H : Hp) : Prop where
  sub : Same ω.F H
  len : S.L.length = ω.n
  obj : ∀ k ds, S.get k = some ds → ω.F (ω.al k) = none ∧ flats ds = true ∧ ∃ vs, H (ω.al k) = some (.lst vs) ∧ Rps K T ω ds vs
  inj : ∀ j k ds es, S.get j = some ds → S.get k = some es → ω.al j = ω.al k → j = k
  lenO : S.O.length = ω.m
  objO : ∀ (k : Nat) (C : Nat) (fs : List (Str × D)), S.O[k]? = some (C, fs) → ω.F (ω.ao k) = none ∧ flatf fs = true ∧ ∃ dx gs, H (ω.ao k) = some (.ins (T.cl C) dx gs) ∧ Rpf K T ω fs gs
  injO : ∀ j k, j < ω.m → k < ω.m → ω.ao j = ω.ao k → j = k
  nt : ∀ b ps, ω.F b ≠ some (.tbl ps)
  tab : LamX.Tabs T.tabs H
def Own (ω : Wd) (S : Store) (a : Addr) : Prop := (∃ o, ω.F a = some o) ∨ (∃ k ds, S.get k = some ds ∧ ω.al k = a) ∨ ∃ k, k < ω.m ∧ ω.ao k = a
structure Ext (ω : Wd) (S : Store) (H : Hp) (ω' : Wd) (S' : Store) (H' : Hp) : Prop where
  fix : Same ω.F ω'.F
  al : ∀ k, k < ω.n → ω'.al k = ω.al k
  len : ω.n ≤ ω'.n
  ao : ∀ k, k < ω.m → ω'.ao k = ω.ao k
  lenO : ω.m ≤ ω'.m
  live : ∀ k es, k < ω.n → S'.get k = some es → ∃ ds, S.get k = some ds
  frame : ∀ a o, H a = some o → (∀ ps, o ≠ .tbl ps) → ¬ Own ω S a → H' a = some o ∧ ¬ Own ω' S' a
theorem Ext.refl {ω : Wd} {S : Store} {H : Hp} : Ext ω S H ω S H := ⟨Same.refl _, fun _ _ => rfl, Nat.le_refl _, fun _ _ => rfl, Nat.le_refl _, fun _ es _ h => ⟨es, h⟩, fun _ _ h _ n => ⟨h, n⟩⟩
theorem Ext.trans {ω ω1 ω2 : Wd} {S S1 S2 : Store} {H H1 H2 : Hp} (a : Ext ω S H ω1 S1 H1) (b : Ext ω1 S1 H1 ω2 S2 H2) : Ext ω S H ω2 S2 H2 :=
  ⟨a.fix.trans b.fix, fun k hk => (b.al k (Nat.lt_of_lt_of_le hk a.len)).trans (a.al k hk), Nat.le_trans a.len b.len, fun k hk => (b.ao k (Nat.lt_of_lt_of_le hk a.lenO)).trans (a.ao k hk), Nat.le_trans a.lenO b.lenO, fun k es hk h => by
    obtain ⟨ds, h1⟩ := b.live k es (Nat.lt_of_lt_of_le hk a.len) h
    exact a.live k ds hk h1, fun c o h t n => by
    obtain ⟨h1, n1⟩ := a.frame c o h t n
    exact b.frame c o h1 t n1⟩
def Plain : HO → Prop
  | .lst _ => True
  | .dK _ => True
  | .dT _ => True
  | .ins _ _ _ => True
  | _ => False
theorem tabs_putP {T : List (Addr × Str)} {H : Hp} {A : Addr} {o : HO} (t : LamX.Tabs T H) (h : H A = none ∨ ∃ u, H A = some u ∧ Plain u) : LamX.Tabs T (upd H A o) := fun p hp => by
  obtain ⟨ps, h1, h2, h3⟩ := t p hp
  have n1 : p.1 ≠ A := fun z => by
    rw [z] at h1
    rcases h with h | ⟨vs, h, q⟩ <;> rw [h] at h1 <;> cases h1
    exact q
  refine ⟨ps, by rw [upd_ne n1]; exact h1, h2, fun pos cv hc => ?_⟩
  obtain ⟨c, e1, e2⟩ := h3 pos cv hc
  have n2 : c ≠ A := fun z => by
    rw [z] at e2
    unfold LamX.CodeO at e2
    rcases h with h | ⟨vs, h, q⟩ <;> rw [h] at e2 <;> cases e2
    exact q
  exact ⟨c, e1, by rw [upd_ne n2]; exact e2⟩
theorem plainL {H : Hp} {A : Addr} (h : H A = none ∨ ∃ vs, H A = some (.lst vs)) : H A = none ∨ ∃ u, H A = some u ∧ Plain u := h.imp id fun ⟨vs, e⟩ => ⟨_, e, trivial⟩
theorem tabs_put {T : List (Addr × Str)} {H : Hp} {A : Addr} {o : HO} (t : LamX.Tabs T H) (h : H A = none ∨ ∃ vs, H A = some (.lst vs)) : LamX.Tabs T (upd H A o) := tabs_putP t (plainL h)
theorem Rl0.extN {K : PySem.W.Frag} {T : Tb} {ω : Wd} {S : Store} {H H1 : Hp} (rl : Rl0 K T ω S H) (e : LamX.ExtN H H1) (t : LamX.Tabs T.tabs H1) : Ext ω S H ω S H1 ∧ Rl0 K T ω S H1 := by
  refine ⟨⟨fun _ _ h => h, fun _ _ => rfl, Nat.le_refl _, fun _ _ => rfl, Nat.le_refl _, fun _ es _ h => ⟨es, h⟩, fun a o h tt n => ⟨e a o h tt, n⟩⟩, ⟨fun b o h => e b o (rl.sub b o h) fun ps z => rl.nt b ps (by rw [h, z]), rl.len, fun k ds h => ?_, rl.inj, rl.lenO, fun k C fs h => ?_, rl.injO, rl.nt, t⟩⟩
  · obtain ⟨a1, a2, vs, a3, a4⟩ := rl.obj k ds h
    exact ⟨a1, a2, vs, e _ _ a3 (fun ps z => by cases z), a4⟩
  · obtain ⟨a1, a2, dx, gs, a3, a4⟩ := rl.objO k C fs h
    exact ⟨a1, a2, dx, gs, e _ _ a3 (fun ps z => by cases z), a4⟩
structure Later (ω ω' : Wd) : Prop where
  fix : Same ω.F ω'.F
  al : ∀ k, k < ω.n → ω'.al k = ω.al k
  len : ω.n ≤ ω'.n
  ao : ∀ k, k < ω.m → ω'.ao k = ω.ao k
  lenO : ω.m ≤ ω'.m
theorem Ext.later {ω ω' : Wd} {S S' : Store} {H H' : Hp} (e : Ext ω S H ω' S' H') : Later ω ω' := ⟨e.fix, e.al, e.len, e.ao, e.lenO⟩
theorem Later.refl {ω : Wd} : Later ω ω := ⟨Same.refl _, fun _ _ => rfl, Nat.le_refl _, fun _ _ => rfl, Nat.le_refl _⟩
theorem Later.trans {a b c : Wd} (x : Later a b) (y : Later b c) : Later a c := ⟨x.fix.trans y.fix, fun k h => (y.al k (Nat.lt_of_lt_of_le h x.len)).trans (x.al k h), Nat.le_trans x.len y.len, fun k h => (y.ao k (Nat.lt_of_lt_of_le h x.lenO)).trans (x.ao k h), Nat.le_trans x.lenO y.lenO⟩
def Pins (ps : List (Wd × Addr × Str)) (ω : Wd) (H : Hp) : Prop := ∀ p ∈ ps, Later p.1 ω ∧ H p.2.1 = some (LamX.CodeO p.2.1 p.2.2)
structure Rl (K : PySem.W.Frag) (T : Tb) (ω : Wd) (S : Store) (H : Hp) : Prop extends Rl0 K T ω S H where
  pinned : Pins T.pin ω H
theorem codeO_lst {c : Addr} {q : Str} {vs : List V} : some (LamX.CodeO c q) ≠ some (.lst vs) := fun z => by
  unfold LamX.CodeO at z
  cases z
theorem Rl0.not_own {K : PySem.W.Frag} {T : Tb} {ω : Wd} {S : Store} {H : Hp} {c : Addr} {q : Str} (rl : Rl0 K T ω S H) (h : H c = some (LamX.CodeO c q)) (hF : ω.F c = none) : ¬ Own ω S c := by
  rintro (⟨o, z⟩ | ⟨k, ds, z, e⟩ | ⟨k, hk, e⟩)
  · rw [hF] at z; cases z
  · obtain ⟨_, _, vs, a3, _⟩ := rl.obj k ds z
    rw [e, h] at a3
    exact codeO_lst a3
  · have hk' : k < S.O.length := by rw [rl.lenO]; exact hk
    obtain ⟨_, _, _, _, a3, _⟩ := rl.objO k _ _ (show S.O[k]? = some (S.O[k].1, S.O[k].2) by simp [hk'])
    rw [e, h] at a3
    unfold LamX.CodeO at a3
    cases a3
theorem pin_ext {K : PySem.W.Frag} {T : Tb} {ω ω' : Wd} {S S' : Store} {H H' : Hp} (rl : Rl K T ω S H) (e : Ext ω S H ω' S' H') (sub : Same ω'.F H') : Pins T.pin ω' H' := fun p hp => by
  obtain ⟨h1, h2⟩ := rl.pinned p hp
  refine ⟨h1.trans e.later, ?_⟩
  cases hF : ω.F p.2.1 with
  | none => exact (e.frame _ _ h2 (fun ps z => LamX.codeO_ne ps z) (rl.toRl0.not_own h2 hF)).1
  | some o =>
    have h3 := rl.sub _ _ hF
    rw [h2] at h3
    rw [h3]
    exact sub _ _ (e.fix _ _ hF)
theorem Rl.extN {K : PySem.W.Frag} {T : Tb} {ω : Wd} {S : Store} {H H1 : Hp} (rl : Rl K T ω S H) (e : LamX.ExtN H H1) (t : LamX.Tabs T.tabs H1) : Ext ω S H ω S H1 ∧ Rl K T ω S H1 :=
  let ⟨x, y⟩ := rl.toRl0.extN e t
  ⟨x, ⟨y, pin_ext rl x y.sub⟩⟩
theorem Same.seqT {K : PySem.W.Frag} {H H' : Hp} {a : Addr} {xs : List V} (e : Same H H') (h : SqT K H a xs) : SqT K H' a xs := by
  rcases h with (h | ⟨o, h⟩) | h
  · exact .inl (.inl (e _ _ h))
  · exact .inl (.inr ⟨o, e _ _ h⟩)
  · exact .inr h
section
variable {K : PySem.W.Frag} {T : Tb} {ω ω' : Wd}
mutual
theorem Rp.mono (fx : Same ω.F ω'.F) (al : ∀ k, k < ω.n → ω'.al k = ω.al k) (ln : ω.n ≤ ω'.n) (ao : ∀ k, k < ω.m → ω'.ao k = ω.ao k) (lo : ω.m ≤ ω'.m) : ∀ (d : D) (v : V), Rp K T ω d v → Rp K T ω' d v
  | .non, v, h => h
  | .bl b, v, h => h
  | .int i, v, h => h
  | .str x, v, h => h
  | .tup ds, v, h => by
    unfold Rp at h ⊢
    obtain ⟨a, vs, e, q, r⟩ := h
    exact ⟨a, vs, e, Same.seqT fx q, Rps.mono fx al ln ao lo ds vs r⟩
  | .lst ds, v, h => by
    unfold Rp at h ⊢
    obtain ⟨a, vs, e, q, r⟩ := h
    exact ⟨a, vs, e, fx _ _ q, Rps.mono fx al ln ao lo ds vs r⟩
  | .ins C fs, v, h => by
    unfold Rp at h ⊢
    obtain ⟨a, dx, gs, e, q, r⟩ := h
    exact ⟨a, dx, gs, e, fx _ _ q, Rpf.mono fx al ln ao lo fs gs r⟩
  | .dct fs, v, h => by
    unfold Rp at h ⊢
    obtain ⟨a, gs, e, q, r⟩ := h
    exact ⟨a, gs, e, fx _ _ q, Rpk.mono fx al ln ao lo fs gs r⟩
  | .ptr k, v, h => by
    unfold Rp at h ⊢
    exact ⟨Nat.lt_of_lt_of_le h.1 ln, by rw [al k h.1]; exact h.2⟩
  | .obj k, v, h => by
    unfold Rp at h ⊢
    exact ⟨Nat.lt_of_lt_of_le h.1 lo, by rw [ao k h.1]; exact h.2⟩
  | .src ns, v, h => by
    unfold Rp at h ⊢
    obtain ⟨a, e, q⟩ := h
    exact ⟨a, e, Same.seq fx q⟩
  | .fn id, v, h => h
  | .exc c args, v, h => by
    unfold Rp at h ⊢
    obtain ⟨e, ec, ws, r, h1, h2⟩ := h
    exact ⟨e, ec, ws, Rps.mono fx al ln ao lo args ws r, h1, fun w hw => let ⟨d, e1, e2⟩ := h2 w hw; ⟨d, e1, fx _ _ e2⟩⟩
theorem Rps.mono (fx : Same ω.F ω'.F) (al : ∀ k, k < ω.n → ω'.al k = ω.al k) (ln : ω.n ≤ ω'.n) (ao : ∀ k, k < ω.m → ω'.ao k = ω.ao k) (lo : ω.m ≤ ω'.m) : ∀ (ds : List D) (vs : List V), Rps K T ω ds vs → Rps K T ω' ds vs
  | [], vs, h => h
  | d :: ds, vs, h => by
    unfold Rps at h ⊢
    obtain ⟨v, ws, e, q, r⟩ := h
    exact ⟨v, ws, e, Rp.mono fx al ln ao lo d v q, Rps.mono fx al ln ao lo ds ws r⟩
theorem Rpf.mono (fx : Same ω.F ω'.F) (al : ∀ k, k < ω.n → ω'.al k = ω.al k) (ln : ω.n ≤ ω'.n) (ao : ∀ k, k < ω.m → ω'.ao k = ω.ao k) (lo : ω.m ≤ ω'.m) : ∀ (fs : List (Str × D)) (gs : List (Str × V)), Rpf K T ω fs gs → Rpf K T ω' fs gs
  | [], gs, h => h
  | (f, d) :: fs, gs, h => by
    unfold Rpf at h ⊢
    obtain ⟨v, hs, e, q, r⟩ := h
    exact ⟨v, hs, e, Rp.mono fx al ln ao lo d v q, Rpf.mono fx al ln ao lo fs hs r⟩
theorem Rpk.mono (fx : Same ω.F ω'.F) (al : ∀ k, k < ω.n → ω'.al k = ω.al k) (ln : ω.n ≤ ω'.n) (ao : ∀ k, k < ω.m → ω'.ao k = ω.ao k) (lo : ω.m ≤ ω'.m) : ∀ (fs : List (Key × D)) (gs : List (Key × V)), Rpk K T ω fs gs → Rpk K T ω' fs gs
  | [], gs, h => h
  | (f, d) :: fs, gs, h => by
    unfold Rpk at h ⊢
    obtain ⟨v, hs, e, q, r⟩ := h
    exact ⟨v, hs, e, Rp.mono fx al ln ao lo d v q, Rpk.mono fx al ln ao lo fs hs r⟩
end
mutual
theorem Rp.flat (fx : Same ω.F ω'.F) (ao : ∀ k, k < ω.m → ω'.ao k = ω.ao k) (lo : ω.m ≤ ω'.m) : ∀ (d : D) (v : V), d.flat = true → Rp K T ω d v → Rp K T ω' d v
  | .non, v, _, h => h
  | .bl b, v, _, h => h
  | .int i, v, _, h => h
  | .str x, v, _, h => h
  | .tup ds, v, f, h => by
    unfold Rp at h ⊢
    obtain ⟨a, vs, e, q, r⟩ := h
    exact ⟨a, vs, e, Same.seqT fx q, Rps.flat fx ao lo ds vs f r⟩
  | .lst ds, v, f, h => by
    unfold Rp at h ⊢
    obtain ⟨a, vs, e, q, r⟩ := h
    exact ⟨a, vs, e, fx _ _ q, Rps.flat fx ao lo ds vs f r⟩
  | .ins C fs, v, f, h => by
    unfold Rp at h ⊢
    obtain ⟨a, dx, gs, e, q, r⟩ := h
    exact ⟨a, dx, gs, e, fx _ _ q, Rpf.flat fx ao lo fs gs f r⟩
  | .dct fs, v, f, h => by
    unfold Rp at h ⊢
    obtain ⟨a, gs, e, q, r⟩ := h
    exact ⟨a, gs, e, fx _ _ q, Rpk.flat fx ao lo fs gs f r⟩
  | .ptr k, v, f, h => by cases f
  | .obj k, v, f, h => by
    unfold Rp at h ⊢
    exact ⟨Nat.lt_of_lt_of_le h.1 lo, by rw [ao k h.1]; exact h.2⟩
  | .src ns, v, f, h => by
    unfold Rp at h ⊢
    obtain ⟨a, e, q⟩ := h
    exact ⟨a, e, Same.seq fx q⟩
  | .fn id, v, _, h => h
  | .exc c args, v, f, h => by cases f
theorem Rps.flat (fx : Same ω.F ω'.F) (ao : ∀ k, k < ω.m → ω'.ao k = ω.ao k) (lo : ω.m ≤ ω'.m) : ∀ (ds : List D) (vs : List V), flats ds = true → Rps K T ω ds vs → Rps K T ω' ds vs
  | [], vs, _, h => h
  | d :: ds, vs, f, h => by
    unfold Rps at h ⊢
    obtain ⟨v, ws, e, q, r⟩ := h
    unfold flats at f
    rw [Bool.and_eq_true] at f
    exact ⟨v, ws, e, Rp.flat fx ao lo d v f.1 q, Rps.flat fx ao lo ds ws f.2 r⟩
theorem Rpf.flat (fx : Same ω.F ω'.F) (ao : ∀ k, k < ω.m → ω'.ao k = ω.ao k) (lo : ω.m ≤ ω'.m) : ∀ (fs : List (Str × D)) (gs : List (Str × V)), flatf fs = true → Rpf K T ω fs gs → Rpf K T ω' fs gs
  | [], gs, _, h => h
  | (g, d) :: fs, gs, f, h => by
    unfold Rpf at h ⊢
    obtain ⟨v, hs, e, q, r⟩ := h
    unfold flatf at f
    rw [Bool.and_eq_true] at f
    exact ⟨v, hs, e, Rp.flat fx ao lo d v f.1 q, Rpf.flat fx ao lo fs hs f.2 r⟩
theorem Rpk.flat (fx : Same ω.F ω'.F) (ao : ∀ k, k < ω.m → ω'.ao k = ω.ao k) (lo : ω.m ≤ ω'.m) : ∀ (fs : List (Key × D)) (gs : List (Key × V)), flatk fs = true → Rpk K T ω fs gs → Rpk K T ω' fs gs
  | [], gs, _, h => h
  | (g, d) :: fs, gs, f, h => by
    unfold Rpk at h ⊢
    obtain ⟨v, hs, e, q, r⟩ := h
    unfold flatk at f
    rw [Bool.and_eq_true] at f
    exact ⟨v, hs, e, Rp.flat fx ao lo d v f.1 q, Rpk.flat fx ao lo fs hs f.2 r⟩
end
theorem Rps.length : ∀ {ds : List D} {vs : List V}, Rps K T ω ds vs → ds.length = vs.length
  | [], vs, h => by unfold Rps at h; rw [h]; rfl
  | d :: ds, vs, h => by
    unfold Rps at h
    obtain ⟨v, ws, rfl, _, r⟩ := h
    simp [Rps.length r]
theorem Rps.get : ∀ {ds : List D} {vs : List V} {i : Nat} {d : D}, Rps K T ω ds vs → ds[i]? = some d → ∃ v, vs[i]? = some v ∧ Rp K T ω d v
  | [], vs, _, _, _, e => by simp at e
  | d :: ds, vs, 0, x, h, e => by
    unfold Rps at h
    obtain ⟨v, ws, rfl, q, _⟩ := h
    simp at e; subst e
    exact ⟨v, rfl, q⟩
  | d :: ds, vs, i + 1, x, h, e => by
    unfold Rps at h
    obtain ⟨v, ws, rfl, _, r⟩ := h
    obtain ⟨u, e1, e2⟩ := Rps.get (i := i) r (by simpa using e)
    exact ⟨u, by simpa using e1, e2⟩
theorem Rps.get' : ∀ {ds : List D} {vs : List V} {i : Nat} {v : V}, Rps K T ω ds vs → vs[i]? = some v → ∃ d, ds[i]? = some d ∧ Rp K T ω d v
  | [], vs, _, _, h, e => by unfold Rps at h; rw [h] at e; simp at e
  | d :: ds, vs, 0, x, h, e => by
    unfold Rps at h
    obtain ⟨v, ws, rfl, q, _⟩ := h
    simp at e; subst e
    exact ⟨d, rfl, q⟩
  | d :: ds, vs, i + 1, x, h, e => by
    unfold Rps at h
    obtain ⟨v, ws, rfl, _, r⟩ := h
    obtain ⟨u, e1, e2⟩ := Rps.get' (i := i) r (by simpa using e)
    exact ⟨u, by simpa using e1, e2⟩
theorem Rps.nil : Rps K T ω [] [] := by unfold Rps; rfl
theorem Rps.cons {d : D} {v : V} {ds : List D} {vs : List V} (h : Rp K T ω d v) (r : Rps K T ω ds vs) : Rps K T ω (d :: ds) (v :: vs) := by
  unfold Rps; exact ⟨v, vs, rfl, h, r⟩
theorem Rps.of_get : ∀ {ds : List D} {vs : List V}, ds.length = vs.length → (∀ (i : Nat) d v, ds[i]? = some d → vs[i]? = some v → Rp K T ω d v) → Rps K T ω ds vs
  | [], [], _, _ => Rps.nil
  | [], _ :: _, h, _ => by simp at h
  | _ :: _, [], h, _ => by simp at h
  | d :: ds, v :: vs, h, f => Rps.cons (f 0 d v rfl rfl) (Rps.of_get (by simpa using h) fun i d' v' h1 h2 => f (i + 1) d' v' (by simpa using h1) (by simpa using h2))
theorem Rps.append : ∀ {ds es : List D} {vs ws : List V}, Rps K T ω ds vs → Rps K T ω es ws → Rps K T ω (ds ++ es) (vs ++ ws)
  | [], es, vs, ws, h, r => by unfold Rps at h; subst h; exact r
  | d :: ds, es, vs, ws, h, r => by
    unfold Rps at h
    obtain ⟨v, us, rfl, q, s⟩ := h
    exact Rps.cons q (Rps.append s r)
theorem Rps.set : ∀ {ds : List D} {vs : List V} {d : D} {v : V} (i : Nat), Rps K T ω ds vs → Rp K T ω d v → Rps K T ω (ds.set i d) (vs.set i v)
  | [], vs, _, _, _, h, _ => by unfold Rps at h; subst h; exact Rps.nil
  | e :: ds, vs, d, v, 0, h, r => by
    unfold Rps at h
    obtain ⟨u, us, rfl, q, s⟩ := h
    exact Rps.cons r s
  | e :: ds, vs, d, v, i + 1, h, r => by
    unfold Rps at h
    obtain ⟨u, us, rfl, q, s⟩ := h
    exact Rps.cons q (Rps.set i s r)
theorem Rps.drop : ∀ {ds : List D} {vs : List V} (i : Nat), Rps K T ω ds vs → Rps K T ω (ds.drop i) (vs.drop i)
  | ds, vs, 0, h => h
  | [], vs, i + 1, h => by unfold Rps at h; subst h; exact Rps.nil
  | e :: ds, vs, i + 1, h => by
    unfold Rps at h
    obtain ⟨u, us, rfl, q, s⟩ := h
    exact Rps.drop i s
theorem Rps.take : ∀ {ds : List D} {vs : List V} (i : Nat), Rps K T ω ds vs → Rps K T ω (ds.take i) (vs.take i)
  | ds, vs, 0, h => by simpa using Rps.nil
  | [], vs, i + 1, h => by unfold Rps at h; subst h; exact Rps.nil
  | e :: ds, vs, i + 1, h => by
    unfold Rps at h
    obtain ⟨u, us, rfl, q, s⟩ := h
    exact Rps.cons q (Rps.take i s)
theorem Rps.dropLast : ∀ {ds : List D} {vs : List V}, Rps K T ω ds vs → Rps K T ω ds.dropLast vs.dropLast := fun {ds vs} h => by
  rw [List.dropLast_eq_take, List.dropLast_eq_take, h.length]
  exact h.take _
theorem Rps.ints : ∀ {ds : List D} {vs : List V} {ns : List Int}, Rps K T ω ds vs → intsOf ds = some ns → vs = ns.map V.int
  | [], vs, ns, h, e => by
    unfold Rps at h; subst h
    cases e; rfl
  | d :: ds, vs, ns, h, e => by
    unfold Rps at h
    obtain ⟨u, us, rfl, q, s⟩ := h
    cases d <;> try (simp [intsOf] at e; done)
    rename_i i
    cases e1 : intsOf ds with
    | none => simp [intsOf, e1] at e
    | some ms =>
      simp [intsOf, e1] at e
      subst e
      unfold Rp at q
      rw [q, Rps.ints s e1]; rfl
theorem Rps.strs : ∀ {ds : List D} {vs : List V} {ns : List Str}, Rps K T ω ds vs → strsOf ds = some ns → vs = ns.map V.str
  | [], vs, ns, h, e => by
    unfold Rps at h; subst h
    cases e; rfl
  | d :: ds, vs, ns, h, e => by
    unfold Rps at h
    obtain ⟨u, us, rfl, q, s⟩ := h
    cases d <;> try (simp [strsOf] at e; done)
    rename_i i
    cases e1 : strsOf ds with
    | none => simp [strsOf, e1] at e
    | some ms =>
      simp [strsOf, e1] at e
      subst e
      unfold Rp at q
      rw [q, Rps.strs s e1]; rfl
theorem Rps.bls : ∀ {ds : List D} {vs : List V} {ns : List Bool}, Rps K T ω ds vs → blsOf ds = some ns → vs = ns.map V.bl
  | [], vs, ns, h, e => by
    unfold Rps at h; subst h
    cases e; rfl
  | d :: ds, vs, ns, h, e => by
    unfold Rps at h
    obtain ⟨u, us, rfl, q, s⟩ := h
    cases d <;> try (simp [blsOf] at e; done)
    rename_i i
    cases e1 : blsOf ds with
    | none => simp [blsOf, e1] at e
    | some ms =>
      simp [blsOf, e1] at e
      subst e
      unfold Rp at q
      rw [q, Rps.bls s e1]; rfl
theorem Rps.of_ints (ns : List Int) : Rps K T ω (ns.map D.int) (ns.map V.int) := by
  induction ns with
  | nil => exact Rps.nil
  | cons i ns ih => exact Rps.cons (by unfold Rp; rfl) ih
end
theorem Rp.ext {K : PySem.W.Frag} {T : Tb} {ω ω' : Wd} {S S' : Store} {H H' : Hp} {d : D} {v : V} (h : Rp K T ω d v) (e : Ext ω S H ω' S' H') : Rp K T ω' d v := Rp.mono e.fix e.al e.len e.ao e.lenO d v h
theorem Rps.ext {K : PySem.W.Frag} {T : Tb} {ω ω' : Wd} {S S' : Store} {H H' : Hp} {d : List D} {v : List V} (h : Rps K T ω d v) (e : Ext ω S H ω' S' H') : Rps K T ω' d v := Rps.mono e.fix e.al e.len e.ao e.lenO d v h
def Rs (K : PySem.W.Frag) (T : Tb) (ω : Wd) (s : Sl) (σ : St) : Prop := s.length = σ.length ∧ ∀ (i : Nat) (d : D), s[i]? = some (some d) → ∃ v, σ[i]? = some (some v) ∧ Rp K T ω d v
section
variable {K : PySem.W.Frag} {T : Tb} {ω ω' : Wd} {S S' : Store} {H H' : Hp} {s : Sl} {σ : St}
theorem Rs.ext (h : Rs K T ω s σ) (e : Ext ω S H ω' S' H') : Rs K T ω' s σ := ⟨h.1, fun i d q => by
  obtain ⟨v, e1, r⟩ := h.2 i d q
  exact ⟨v, e1, r.ext e⟩⟩
theorem Rs.set (h : Rs K T ω s σ) {d : D} {v : V} (r : Rp K T ω d v) (i : Nat) : Rs K T ω (s.set i (some d)) (σ.set i (some v)) := by
  refine ⟨by rw [List.length_set, List.length_set]; exact h.1, fun j e q => ?_⟩
  by_cases hj : i = j
  · subst hj
    by_cases hl : i < s.length
    · rw [List.getElem?_set_self hl] at q
      cases q
      exact ⟨v, List.getElem?_set_self (h.1 ▸ hl), r⟩
    · rw [List.getElem?_eq_none (by simpa using hl)] at q
      cases q
  · rw [List.getElem?_set_ne hj] at q
    obtain ⟨u, e1, e2⟩ := h.2 j e q
    exact ⟨u, by rw [List.getElem?_set_ne hj]; exact e1, e2⟩
theorem Rs.drop (h : Rs K T ω s σ) (i : Nat) : Rs K T ω (s.set i none) (σ.set i none) := by
  refine ⟨by rw [List.length_set, List.length_set]; exact h.1, fun j e q => ?_⟩
  by_cases hj : i = j
  · subst hj
    by_cases hl : i < s.length
    · rw [List.getElem?_set_self hl] at q
      cases q
    · rw [List.getElem?_eq_none (by simpa using hl)] at q
      cases q
  · rw [List.getElem?_set_ne hj] at q
    obtain ⟨u, e1, e2⟩ := h.2 j e q
    exact ⟨u, by rw [List.getElem?_set_ne hj]; exact e1, e2⟩
end
end Q
set_option maxHeartbeats 1000000
namespace Q
open PySem PySem.Spec PyProof.Rows L2
structure Tx extends Tb where
  fld : Nat → Str
def ExR (K : PySem.W.Frag) (T : Tx) (ω : Wd) (e : Ex) (cls : Value) (dd : Option Addr) : Prop :=
  cls = .ref (T.cl e.cls) ∧ match e.args with
    | [] => dd = none
    | [x] => ∃ d v, dd = some d ∧ ω.F d = some (.xd [(T.fld e.cls, v)]) ∧ Rp K T.toTb ω x v
    | _ => False
section
variable {K : PySem.W.Frag} {T : Tx} {α β γ δ : Type}
def EPg (K : PySem.W.Frag) (T : Tx) (R : Wd → α → β → Prop) (W : WX) (σ : L2.St) (ω : Wd) (S : Store) (H : Hp) (r : Res α) (Qv : β → Hp → Prop) : Prop := match r with
  | .ok d S' => ∀ ω' H' v, Ext ω S H ω' S' H' → Rl K T.toTb ω' S' H' → R ω' d v → Qv v H'
  | .ex e S' => ∀ ω' H' cls dd, Ext ω S H ω' S' H' → Rl K T.toTb ω' S' H' → ExR K T ω' e cls dd → W cls dd σ H'
  | .err => False
theorem EPg.shift {R : Wd → α → β → Prop} {W : WX} {σ : L2.St} {ω ω1 : Wd} {S S1 : Store} {H H1 : Hp} {r : Res α} {Qv : β → Hp → Prop} (e : Ext ω S H ω1 S1 H1) (h : EPg K T R W σ ω S H r Qv) : EPg K T R W σ ω1 S1 H1 r Qv := by
  cases r with
  | ok d S' => exact fun ω' H' v x => h ω' H' v (e.trans x)
  | ex q S' => exact fun ω' H' c dd x => h ω' H' c dd (e.trans x)
  | err => exact h
theorem EPg.bind {R : Wd → α → β → Prop} {R2 : Wd → γ → δ → Prop} {W : WX} {σ : L2.St} {ω : Wd} {S : Store} {H : Hp} {r : Res α} {k : α → Store → Res γ} {Qv : δ → Hp → Prop} (h : EPg K T R2 W σ ω S H (r.bind k) Qv) :
    EPg K T R W σ ω S H r (fun v H1 => ∃ ω1 S1 d, Ext ω S H ω1 S1 H1 ∧ Rl K T.toTb ω1 S1 H1 ∧ R ω1 d v ∧ EPg K T R2 W σ ω1 S1 H1 (k d S1) Qv) := by
  cases r with
  | ok d S' => exact fun ω' H' v e rl rp => ⟨ω', S', d, e, rl, rp, EPg.shift e h⟩
  | ex q S' => exact h
  | err => exact h
theorem EPg.mono {R : Wd → α → β → Prop} {W : WX} {σ : L2.St} {ω : Wd} {S : Store} {H : Hp} {r : Res α} {Qv Qw : β → Hp → Prop} (h : EPg K T R W σ ω S H r Qv) (hq : ∀ v H, Qv v H → Qw v H) : EPg K T R W σ ω S H r Qw := by
  cases r with
  | ok d S' => exact fun ω' H' v e rl rp => hq _ _ (h ω' H' v e rl rp)
  | ex q S' => exact h
  | err => exact h
theorem EPg.now {R : Wd → α → β → Prop} {W : WX} {σ : L2.St} {ω : Wd} {S : Store} {H : Hp} {d : α} {v : β} {Qv : β → Hp → Prop} (h : EPg K T R W σ ω S H (.ok d S) Qv) (rl : Rl K T.toTb ω S H) (r : R ω d v) : Qv v H := h ω H v Ext.refl rl r
def tEr (K : PySem.W.Frag) (T : Tx) (W : WX) (t : Q.TE) : L2.TE := fun σ H Qv => ∃ s S ω, Rl K T.toTb ω S H ∧ Rs K T.toTb ω s σ ∧ EPg K T (Rp K T.toTb) W σ ω S H (t s S) Qv
def tAr (K : PySem.W.Frag) (T : Tx) (W : WX) (t : Q.TA) : L2.TA := fun σ H Qv => ∃ s S ω, Rl K T.toTb ω S H ∧ Rs K T.toTb ω s σ ∧ EPg K T (Rps K T.toTb) W σ ω S H (t s S) Qv
def asBool (r : Res D) : Res D := r.bind fun d S => asB d S fun b S => .ok (.bl b) S
def Rb : Wd → D → Bool → Prop := fun _ d b => d = .bl b
def tTr (K : PySem.W.Frag) (T : Tx) (W : WX) (t : Q.TE) : L2.TT := fun σ H Qv => ∃ s S ω, Rl K T.toTb ω S H ∧ Rs K T.toTb ω s σ ∧ EPg K T Rb W σ ω S H (asBool (t s S)) Qv
end
def GE (X : Cx) (T : Tx) (W : WX) (e : Expr) (t : Q.TE) : Prop := PE X e (tEr X.K T W t)
def GA (X : Cx) (T : Tx) (W : WX) (es : List Expr) (ts : List Q.TE) : Prop := PA X es (tAr X.K T W (eArgs ts))
def GT (X : Cx) (T : Tx) (W : WX) (e : Expr) (t : Q.TE) : Prop := PT X e (tTr X.K T W t)
def GW (X : Cx) (T : Tx) (W : WX) (e : Expr) (t : Q.TE) : Prop := PW X e (tTr X.K T W t)
theorem PE.imp {X : Cx} {e : Expr} {t t' : L2.TE} (h : PE X e t) (i : ∀ σ H Qv, t' σ H Qv → t σ H Qv) : PE X e t' := ⟨fun pins s σ H Qv I q => h.run pins s σ H Qv I (i _ _ _ q)⟩
theorem PT.imp {X : Cx} {e : Expr} {t t' : L2.TT} (h : PT X e t) (i : ∀ σ H Qv, t' σ H Qv → t σ H Qv) : PT X e t' := ⟨fun pins s σ H Qv I q => h.run pins s σ H Qv I (i _ _ _ q)⟩
theorem PW.imp {X : Cx} {e : Expr} {t t' : L2.TT} (h : PW X e t) (i : ∀ σ H Qv, t' σ H Qv → t σ H Qv) : PW X e t' := ⟨fun wh pins s σ H Qv I q => h.run wh pins s σ H Qv I (i _ _ _ q)⟩
theorem PA.imp {X : Cx} {es : List Expr} {t t' : L2.TA} (h : PA X es t) (i : ∀ σ H Qv, t' σ H Qv → t σ H Qv) : PA X es t' := ⟨fun pos pins s σ H Qv I q => h.run pos pins s σ H Qv I (i _ _ _ q)⟩
section
variable {X : Cx} {T : Tx} {W : WX} {a b c e : Expr} {es : List Expr} {ta tb tc : Q.TE} {ts : List Q.TE} {pos : Pos}
theorem ge_var (i : Nat) (h : PE X e (tVar i)) : GE X T W e (eV i) := PE.imp h fun σ H Qv ⟨s, S, ω, rl, rs, q⟩ => by
  unfold eV at q
  cases e1 : s[i]? with
  | none => rw [e1] at q; exact q.elim
  | some o => cases o with
    | none => rw [e1] at q; exact q.elim
    | some d =>
      rw [e1] at q
      obtain ⟨v, h1, h2⟩ := rs.2 i d e1
      exact ⟨v, h1, q.now rl h2⟩
theorem ge_c {v : V} {d : D} (h : PE X e (tC v)) (r : ∀ ω, Rp X.K T.toTb ω d v) : GE X T W e (eC d) := PE.imp h fun σ H Qv ⟨s, S, ω, rl, rs, q⟩ => q.now rl (r ω)
theorem ge_int {i j} : GE X T W (.Constant (.int i) j pos) (eC (.int i)) := ge_c pe_int fun _ => by unfold Rp; rfl
theorem ge_bl {b j} : GE X T W (.Constant (.bool b) j pos) (eC (.bl b)) := ge_c pe_bl fun _ => by unfold Rp; rfl
theorem ge_non {j} : GE X T W (.Constant .none j pos) (eC .non) := ge_c pe_non fun _ => by unfold Rp; rfl
theorem ge_str {x j} : GE X T W (.Constant (.str x) j pos) (eC (.str x)) := ge_c pe_str fun _ => by unfold Rp; rfl
theorem ge_gint {x : Str} {i : Int} {u : Value} (hg : Gl X x) (hm : X.mg x = some u) (r : RelV (.int i) u) (hd : (x == ("__debug__" : Str)) = false := by decide) : GE X T W (.Name x pos) (eC (.int i)) := ge_c (pe_glob hg hm r hd) fun _ => by unfold Rp; rfl
theorem ge_gstr {x z : Str} {u : Value} (hg : Gl X x) (hm : X.mg x = some u) (r : RelV (.str z) u) (hd : (x == ("__debug__" : Str)) = false := by decide) : GE X T W (.Name x pos) (eC (.str z)) := ge_c (pe_glob hg hm r hd) fun _ => by unfold Rp; rfl
theorem ge_gtup {x : Str} {a : Addr} {ds : List D} {vs : List V} (hg : Gl X x) (hm : X.mg x = some (.ref a)) (q : ∀ H, SqT X.K H a vs) (r : ∀ ω, Rps X.K T.toTb ω ds vs) (hd : (x == ("__debug__" : Str)) = false := by decide) : GE X T W (.Name x pos) (eC (.tup ds)) :=
  ge_c (pe_glob hg hm (v := .ref a) rfl hd) fun ω => by unfold Rp; exact ⟨a, vs, rfl, q _, r ω⟩
theorem ga_nil : GA X T W [] [] := PA.imp pa_nil fun σ H Qv ⟨s, S, ω, rl, rs, q⟩ => q.now rl Rps.nil
theorem ga_cons (ha : GE X T W a ta) (hr : GA X T W es ts) (hs : starEach (a :: es) X.env = (false, eval a X.env) :: starEach es X.env := by rfl) : GA X T W (a :: es) (ta :: ts) :=
  PA.imp (pa_cons ha hr hs) fun σ H Qv ⟨s, S, ω, rl, rs, q⟩ => by
    refine ⟨s, S, ω, rl, rs, (EPg.bind q).mono ?_⟩
    rintro v H1 ⟨ω1, S1, d, e1, rl1, r1, q1⟩
    refine ⟨s, S1, ω1, rl1, rs.ext e1, (EPg.bind q1).mono ?_⟩
    rintro vs H2 ⟨ω2, S2, ds, e2, rl2, r2, q2⟩
    exact q2.now rl2 (Rps.cons (r1.ext e2) r2)
def PQ (K : PySem.W.Frag) (T : Tx) (ω : Wd) (S : Store) (H : Hp) (o : Option (D × Store)) (Qv : VK) : Prop := match o with
  | some (d, S') => ∀ ω' H' v, Ext ω S H ω' S' H' → Rl K T.toTb ω' S' H' → Rp K T.toTb ω' d v → Qv v H'
  | none => False
theorem PQ.of {σ : L2.St} {ω : Wd} {S : Store} {H : Hp} {o : Option (D × Store)} {Qv : VK} (h : EPg X.K T (Rp X.K T.toTb) W σ ω S H (ofO o) Qv) : PQ X.K T ω S H o Qv := by
  cases o with
  | none => exact h
  | some p => exact h
theorem PQ.now {K : PySem.W.Frag} {ω : Wd} {S : Store} {H : Hp} {d : D} {v : V} {Qv : VK} (h : PQ K T ω S H (some (d, S)) Qv) (rl : Rl K T.toTb ω S H) (r : Rp K T.toTb ω d v) : Qv v H := h ω H v Ext.refl rl r
def Ok1 (K : PySem.W.Frag) (T : Tx) (r : V → Hp → VK → Prop) (f : Op1) : Prop := ∀ ω S H x u Qv, Rl K T.toTb ω S H → Rp K T.toTb ω x u → PQ K T ω S H (f x S) Qv → r u H Qv
def Ok2 (K : PySem.W.Frag) (T : Tx) (r : R2) (f : Op2) : Prop := ∀ ω S H x y u v Qv, Rl K T.toTb ω S H → Rp K T.toTb ω x u → Rp K T.toTb ω y v → PQ K T ω S H (f x y S) Qv → r u v H Qv
def OkN (K : PySem.W.Frag) (T : Tx) (r : List V → Hp → VK → Prop) (f : OpN) : Prop := ∀ ω S H xs us Qv, Rl K T.toTb ω S H → Rps K T.toTb ω xs us → PQ K T ω S H (f xs S) Qv → r us H Qv
theorem tOp_ok {r : R2} {f : Op2} (hf : Ok2 X.K T r f) (σ : L2.St) (H : Hp) (Qv : VK) (h : tEr X.K T W (e2 f ta tb) σ H Qv) : tOp r (tEr X.K T W ta) (tEr X.K T W tb) σ H Qv := by
  obtain ⟨s, S, ω, rl, rs, q⟩ := h
  refine ⟨s, S, ω, rl, rs, (EPg.bind q).mono ?_⟩
  rintro v H1 ⟨ω1, S1, d, e1, rl1, r1, q1⟩
  refine ⟨s, S1, ω1, rl1, rs.ext e1, (EPg.bind q1).mono ?_⟩
  rintro u H2 ⟨ω2, S2, d2, e2, rl2, r2, q2⟩
  exact hf _ _ _ _ _ _ _ _ rl2 (r1.ext e2) r2 (PQ.of q2)
theorem ge_op {op : Operator} {r : R2} {f : Op2} (ho : OpR X (binaryOp op) r) (hf : Ok2 X.K T r f) (ha : GE X T W a ta) (hb : GE X T W b tb) : GE X T W (.BinOp a op b pos) (e2 f ta tb) := PE.imp (pe_op ho ha hb) (tOp_ok hf)
theorem ge_cmp {op : CmpOp} {r : R2} {f : Op2} (ho : OpR X (compareOp op) r) (hf : Ok2 X.K T r f) (ha : GE X T W a ta) (hb : GE X T W b tb) (hm : behindInMarks op b = false) : GE X T W (.Compare a [op] [b] pos) (e2 f ta tb) := PE.imp (pe_cmpR ho ha hb hm) (tOp_ok hf)
theorem ge_ix {r : R2} {f : Op2} (hr : IxR X r) (hf : Ok2 X.K T r f) (ha : GE X T W a ta) (hb : GE X T W b tb) (hs : PlainIx b) : GE X T W (.Subscript a b pos) (e2 f ta tb) := PE.imp (pe_ix hr ha hb hs) (tOp_ok hf)
theorem ge_un {op : UnaryOp} {r : V → Hp → VK → Prop} {f : Op1} (ho : UnR X (unaryOp op) r) (hf : Ok1 X.K T r f) (ha : GE X T W a ta) : GE X T W (.UnaryOp op a pos) (e1 f ta) := PE.imp (pe_un ho ha) fun σ H Qv ⟨s, S, ω, rl, rs, q⟩ => by
  refine ⟨s, S, ω, rl, rs, (EPg.bind q).mono ?_⟩
  rintro v H1 ⟨ω1, S1, d, e1, rl1, r1, q1⟩
  exact hf _ _ _ _ _ _ rl1 r1 (PQ.of q1)
theorem ge_isN {j pos'} (ha : GE X T W a ta) : GE X T W (.Compare a [.Is] [.Constant .none j pos'] pos) (e1 oIsN ta) := PE.imp (pe_cmp (pc_isN ha)) fun σ H Qv ⟨s, S, ω, rl, rs, q⟩ => by
  refine ⟨s, S, ω, rl, rs, (EPg.bind q).mono ?_⟩
  rintro v H1 ⟨ω1, S1, d, e1, rl1, r1, q1⟩
  refine (PQ.of q1).now rl1 ?_
  cases d <;> unfold Rp at r1 <;> unfold Rp <;> first | (subst r1; rfl) | (obtain ⟨rfl, _, _, _, _, _⟩ := r1; rfl) | (obtain ⟨_, _, rfl, _⟩ := r1; rfl) | (obtain ⟨_, rfl⟩ := r1; rfl) | (obtain ⟨_, _, _, rfl, _⟩ := r1; rfl) | (obtain ⟨_, rfl, _⟩ := r1; rfl)
theorem ge_notN {j pos'} (ha : GE X T W a ta) : GE X T W (.Compare a [.IsNot] [.Constant .none j pos'] pos) (e1 oNotN ta) := PE.imp (pe_cmp (pc_notN ha)) fun σ H Qv ⟨s, S, ω, rl, rs, q⟩ => by
  refine ⟨s, S, ω, rl, rs, (EPg.bind q).mono ?_⟩
  rintro v H1 ⟨ω1, S1, d, e1, rl1, r1, q1⟩
  refine (PQ.of q1).now rl1 ?_
  cases d <;> unfold Rp at r1 <;> unfold Rp <;> first | (subst r1; rfl) | (obtain ⟨rfl, _, _, _, _, _⟩ := r1; rfl) | (obtain ⟨_, _, rfl, _⟩ := r1; rfl) | (obtain ⟨_, rfl⟩ := r1; rfl) | (obtain ⟨_, _, _, rfl, _⟩ := r1; rfl) | (obtain ⟨_, rfl, _⟩ := r1; rfl)
theorem ge_chain {op op' : CmpOp} {r r' : R2} {f g : Op2} (ho : OpR X (compareOp op) r) (ho' : OpR X (compareOp op') r') (hf : Ok2 X.K T r f) (hg : Ok2 X.K T r' g) (ha : GE X T W a ta) (hb : GE X T W b tb) (hc : GE X T W c tc)
    (h : PE X (.Compare a [op, op'] [b, c] pos) (tChain r r' (tEr X.K T W ta) (tEr X.K T W tb) (tEr X.K T W tc))) : GE X T W (.Compare a [op, op'] [b, c] pos) (eChain f g ta tb tc) := PE.imp h fun σ H Qv ⟨s, S, ω, rl, rs, q⟩ => by
  refine ⟨s, S, ω, rl, rs, (EPg.bind q).mono ?_⟩
  rintro v H1 ⟨ω1, S1, d, e1, rl1, r1, q1⟩
  refine ⟨s, S1, ω1, rl1, rs.ext e1, (EPg.bind q1).mono ?_⟩
  rintro u H2 ⟨ω2, S2, d2, e2, rl2, r2, q2⟩
  refine hf ω2 S2 H2 d d2 v u _ rl2 (r1.ext e2) r2 (PQ.of (X := X) (T := T) (W := W) (σ := σ) ((EPg.bind q2).mono ?_))
  rintro z H3 ⟨ω3, S3, d3, e3, rl3, r3, q3⟩
  cases d3 <;> try exact q3.elim
  rename_i k
  unfold Rp at r3
  refine ⟨k, r3, ?_⟩
  cases k with
  | false => exact iteF (q3.now rl3 (by unfold Rp; rfl))
  | true =>
    refine iteT ?_
    have e23 := e2.trans e3
    refine ⟨s, S3, ω3, rl3, (rs.ext e1).ext e23, (EPg.bind q3).mono ?_⟩
    rintro y H4 ⟨ω4, S4, d4, e4, rl4, r4, q4⟩
    exact hg _ _ _ _ _ _ _ _ rl4 ((r2.ext e3).ext e4) r4 (PQ.of q4)
theorem asB_bl {ω : Wd} {d : D} {v : V} {S : Store} {k : Bool → Store → Res D} {σ : L2.St} {H : Hp} {Qv : VK} (r : Rp X.K T.toTb ω d v) (q : EPg X.K T (Rp X.K T.toTb) W σ ω S H (asB d S k) Qv) : ∃ b, d = .bl b ∧ v = .bl b ∧ EPg X.K T (Rp X.K T.toTb) W σ ω S H (k b S) Qv := by
  cases d <;> try exact q.elim
  rename_i b
  unfold Rp at r
  exact ⟨b, rfl, r, q⟩
theorem ge_one {op} (h : GE X T W a ta) : GE X T W (.BoolOp op [a] pos) ta := pe_one h
theorem ge_and (ha : GE X T W a ta) (hb : GE X T W (.BoolOp .And (b :: es) pos) tb) : GE X T W (.BoolOp .And (a :: b :: es) pos) (eAnd ta tb) := PE.imp (pe_and ha hb) fun σ H Qv ⟨s, S, ω, rl, rs, q⟩ => by
  refine ⟨s, S, ω, rl, rs, (EPg.bind q).mono ?_⟩
  rintro v H1 ⟨ω1, S1, d, e1, rl1, r1, q1⟩
  obtain ⟨k, rfl, rfl, q2⟩ := asB_bl r1 q1
  refine ⟨k, rfl, ?_⟩
  cases k with
  | true => exact iteT ⟨s, S1, ω1, rl1, rs.ext e1, q2⟩
  | false => exact iteF (q2.now rl1 (by unfold Rp; rfl))
theorem ge_or (ha : GE X T W a ta) (hb : GE X T W (.BoolOp .Or (b :: es) pos) tb) : GE X T W (.BoolOp .Or (a :: b :: es) pos) (eOr ta tb) := PE.imp (pe_or ha hb) fun σ H Qv ⟨s, S, ω, rl, rs, q⟩ => by
  refine ⟨s, S, ω, rl, rs, (EPg.bind q).mono ?_⟩
  rintro v H1 ⟨ω1, S1, d, e1, rl1, r1, q1⟩
  obtain ⟨k, rfl, rfl, q2⟩ := asB_bl r1 q1
  refine ⟨k, rfl, ?_⟩
  cases k with
  | false => exact iteF ⟨s, S1, ω1, rl1, rs.ext e1, q2⟩
  | true => exact iteT (q2.now rl1 (by unfold Rp; rfl))
theorem ge_not (ha : GE X T W a ta) : GE X T W (.UnaryOp .Not a pos) (eNot ta) := PE.imp (pe_not ha) fun σ H Qv ⟨s, S, ω, rl, rs, q⟩ => by
  refine ⟨s, S, ω, rl, rs, (EPg.bind q).mono ?_⟩
  rintro v H1 ⟨ω1, S1, d, e1, rl1, r1, q1⟩
  obtain ⟨k, rfl, rfl, q2⟩ := asB_bl r1 q1
  exact ⟨k, rfl, q2.now rl1 (by unfold Rp; rfl)⟩
theorem gt_val (h : GE X T W a ta) (he : ∀ whole, isTrue a X.env whole = (do let v ← whole; standAt a.pos; holding [v] (truthy v)) := by intro _; rfl) : GT X T W a ta := PT.imp (pt_val h he) fun σ H Qv ⟨s, S, ω, rl, rs, q⟩ => by
  refine ⟨s, S, ω, rl, rs, (EPg.bind q).mono ?_⟩
  rintro v H1 ⟨ω1, S1, d, e1, rl1, r1, q1⟩
  cases d <;> try exact q1.elim
  rename_i k
  unfold Rp at r1
  exact ⟨k, r1, q1.now rl1 rfl⟩
theorem tTest_ok {X : Cx} {T : Tx} {W : WX} {t : Q.TE} {tv : L2.TE} (hv : ∀ σ H Qv, tEr X.K T W t σ H Qv → tv σ H Qv) (σ : L2.St) (H : Hp) (Qv : Bool → Hp → Prop) (h : tTr X.K T W t σ H Qv) : tTest tv σ H Qv := by
  obtain ⟨s, S, ω, rl, rs, q⟩ := h
  refine hv _ _ _ ⟨s, S, ω, rl, rs, (EPg.bind q).mono ?_⟩
  rintro v H1 ⟨ω1, S1, d, e1, rl1, r1, q1⟩
  cases d <;> try exact q1.elim
  rename_i k
  unfold Rp at r1
  exact ⟨k, r1, q1.now rl1 rfl⟩
theorem gt_cmp {op : CmpOp} {r : R2} {f : Op2} (ho : OpR X (compareOp op) r) (hf : Ok2 X.K T r f) (ha : GE X T W a ta) (hb : GE X T W b tb) (hm : behindInMarks op b = false) : GT X T W (.Compare a [op] [b] pos) (e2 f ta tb) :=
  PT.imp (pt_cmpR ho ha hb hm) (tTest_ok (tOp_ok hf))
theorem gt_isN {j pos'} (ha : GE X T W a ta) : GT X T W (.Compare a [.Is] [.Constant .none j pos'] pos) (e1 oIsN ta) := PT.imp (pt_cmp (pc_isN ha)) (by
  refine tTest_ok (X := X) (T := T) (W := W) (tv := tIsN (tEr X.K T W ta)) fun σ H Qv ⟨s, S, ω, rl, rs, q⟩ => ?_
  refine ⟨s, S, ω, rl, rs, (EPg.bind q).mono ?_⟩
  rintro v H1 ⟨ω1, S1, d, e1, rl1, r1, q1⟩
  refine (PQ.of q1).now rl1 ?_
  cases d <;> unfold Rp at r1 <;> unfold Rp <;> first | (subst r1; rfl) | (obtain ⟨rfl, _, _, _, _, _⟩ := r1; rfl) | (obtain ⟨_, _, rfl, _⟩ := r1; rfl) | (obtain ⟨_, rfl⟩ := r1; rfl) | (obtain ⟨_, _, _, rfl, _⟩ := r1; rfl) | (obtain ⟨_, rfl, _⟩ := r1; rfl))
theorem gt_notN {j pos'} (ha : GE X T W a ta) : GT X T W (.Compare a [.IsNot] [.Constant .none j pos'] pos) (e1 oNotN ta) := PT.imp (pt_cmp (pc_notN ha)) (by
  refine tTest_ok (X := X) (T := T) (W := W) (tv := tNotN (tEr X.K T W ta)) fun σ H Qv ⟨s, S, ω, rl, rs, q⟩ => ?_
  refine ⟨s, S, ω, rl, rs, (EPg.bind q).mono ?_⟩
  rintro v H1 ⟨ω1, S1, d, e1, rl1, r1, q1⟩
  refine (PQ.of q1).now rl1 ?_
  cases d <;> unfold Rp at r1 <;> unfold Rp <;> first | (subst r1; rfl) | (obtain ⟨rfl, _, _, _, _, _⟩ := r1; rfl) | (obtain ⟨_, _, rfl, _⟩ := r1; rfl) | (obtain ⟨_, rfl⟩ := r1; rfl) | (obtain ⟨_, _, _, rfl, _⟩ := r1; rfl) | (obtain ⟨_, rfl, _⟩ := r1; rfl))
theorem gt_chain {op op' : CmpOp} {r r' : R2} {f g : Op2} (ho : OpR X (compareOp op) r) (ho' : OpR X (compareOp op') r') (hf : Ok2 X.K T r f) (hg : Ok2 X.K T r' g) (ha : GE X T W a ta) (hb : GE X T W b tb) (hc : GE X T W c tc)
    (h : PT X (.Compare a [op, op'] [b, c] pos) (tTest (tChain r r' (tEr X.K T W ta) (tEr X.K T W tb) (tEr X.K T W tc)))) : GT X T W (.Compare a [op, op'] [b, c] pos) (eChain f g ta tb tc) := PT.imp h (tTest_ok (X := X) (T := T) (W := W) fun σ H Qv ⟨s, S, ω, rl, rs, q⟩ => by
  refine ⟨s, S, ω, rl, rs, (EPg.bind q).mono ?_⟩
  rintro v H1 ⟨ω1, S1, d, e1, rl1, r1, q1⟩
  refine ⟨s, S1, ω1, rl1, rs.ext e1, (EPg.bind q1).mono ?_⟩
  rintro u H2 ⟨ω2, S2, d2, e2, rl2, r2, q2⟩
  refine hf ω2 S2 H2 d d2 v u _ rl2 (r1.ext e2) r2 (PQ.of (X := X) (T := T) (W := W) (σ := σ) ((EPg.bind q2).mono ?_))
  rintro z H3 ⟨ω3, S3, d3, e3, rl3, r3, q3⟩
  cases d3 <;> try exact q3.elim
  rename_i k
  unfold Rp at r3
  refine ⟨k, r3, ?_⟩
  cases k with
  | false => exact iteF (q3.now rl3 (by unfold Rp; rfl))
  | true =>
    refine iteT ?_
    have e23 := e2.trans e3
    refine ⟨s, S3, ω3, rl3, (rs.ext e1).ext e23, (EPg.bind q3).mono ?_⟩
    rintro y H4 ⟨ω4, S4, d4, e4, rl4, r4, q4⟩
    exact hg _ _ _ _ _ _ _ _ rl4 ((r2.ext e3).ext e4) r4 (PQ.of q4))
theorem GW.gt (h : GW X T W a ta) : GT X T W a ta := PW.pt h
theorem bool_bind {R : Wd → D → Bool → Prop} {σ : L2.St} {ω : Wd} {S : Store} {H : Hp} {r : Res D} {k : Bool → Store → Res D} {Qv : Bool → Hp → Prop} (h : EPg X.K T Rb W σ ω S H (asBool (r.bind fun x S1 => asB x S1 k)) Qv) :
    EPg X.K T Rb W σ ω S H (asBool r) (fun c H1 => ∃ ω1 S1, Ext ω S H ω1 S1 H1 ∧ Rl X.K T.toTb ω1 S1 H1 ∧ EPg X.K T Rb W σ ω1 S1 H1 (asBool (k c S1)) Qv) := by
  cases r with
  | ok d S' =>
    cases d <;> try exact h
    rename_i b
    intro ω' H' c e rl r
    cases r
    exact ⟨ω', S', e, rl, EPg.shift e h⟩
  | ex q S' => exact h
  | err => exact h
theorem gw_and1 (ha : GT X T W a ta) : GW X T W (.BoolOp .And [a] pos) ta := pw_and1 ha
theorem gw_or1 (ha : GT X T W a ta) : GW X T W (.BoolOp .Or [a] pos) ta := pw_or1 ha
theorem gw_and (ha : GT X T W a ta) (hb : GW X T W (.BoolOp .And (b :: es) pos) tb) : GW X T W (.BoolOp .And (a :: b :: es) pos) (eAnd ta tb) := PW.imp (pw_and ha hb) fun σ H Qv ⟨s, S, ω, rl, rs, q⟩ => by
  refine ⟨s, S, ω, rl, rs, (bool_bind (R := Rb) q).mono ?_⟩
  rintro k H1 ⟨ω1, S1, e1, rl1, q1⟩
  cases k with
  | true => exact iteT ⟨s, S1, ω1, rl1, rs.ext e1, q1⟩
  | false => exact iteF (q1.now rl1 rfl)
theorem gw_or (ha : GT X T W a ta) (hb : GW X T W (.BoolOp .Or (b :: es) pos) tb) : GW X T W (.BoolOp .Or (a :: b :: es) pos) (eOr ta tb) := PW.imp (pw_or ha hb) fun σ H Qv ⟨s, S, ω, rl, rs, q⟩ => by
  refine ⟨s, S, ω, rl, rs, (bool_bind (R := Rb) q).mono ?_⟩
  rintro k H1 ⟨ω1, S1, e1, rl1, q1⟩
  cases k with
  | false => exact iteF ⟨s, S1, ω1, rl1, rs.ext e1, q1⟩
  | true => exact iteT (q1.now rl1 rfl)
theorem gt_not (ha : GT X T W a ta) : GT X T W (.UnaryOp .Not a pos) (eNot ta) := PT.imp (pt_not ha) fun σ H Qv ⟨s, S, ω, rl, rs, q⟩ => by
  refine ⟨s, S, ω, rl, rs, (bool_bind (R := Rb) q).mono ?_⟩
  rintro k H1 ⟨ω1, S1, e1, rl1, q1⟩
  exact q1.now rl1 rfl
theorem ge_if (hc : GT X T W c tc) (ha : GE X T W a ta) (hb : GE X T W b tb) : GE X T W (.IfExp c a b pos) (eIf tc ta tb) := PE.imp (pe_ifExp hc ha hb) fun σ H Qv ⟨s, S, ω, rl, rs, q⟩ => by
  refine ⟨s, S, ω, rl, rs, ?_⟩
  unfold eIf at q
  cases e0 : tc s S with
  | ok d S' =>
    rw [e0] at q
    cases d <;> try exact q.elim
    rename_i k
    intro ω' H' c e rl r
    cases r
    have q2 := EPg.shift e q
    cases k with
    | true => exact iteT ⟨s, S', ω', rl, rs.ext e, q2⟩
    | false => exact iteF ⟨s, S', ω', rl, rs.ext e, q2⟩
  | ex x S' => rw [e0] at q; exact q
  | err => rw [e0] at q; exact q
theorem Rl0.laid {K : PySem.W.Frag} {ω : Wd} {S : Store} {H : Hp} {p : Addr} (rl : Rl0 K T.toTb ω S H) (hp : H p = none) (o : HO) (ho : ∀ ps, o ≠ .tbl ps := by intro ps z; cases z) :
    ∃ ω', Ext ω S H ω' S (upd H p o) ∧ Rl0 K T.toTb ω' S (upd H p o) ∧ ω'.F p = some o := by
  have hF : ω.F p = none := rl.sub.free hp
  have fx : Same ω.F (upd ω.F p o) := fun b q h => by rw [upd_ne (ne_of_none h hF)]; exact h
  refine ⟨⟨upd ω.F p o, ω.al, ω.n, ω.ao, ω.m⟩, ⟨fx, fun _ _ => rfl, Nat.le_refl _, fun _ _ => rfl, Nat.le_refl _, fun _ es _ h => ⟨es, h⟩, fun b q h _ n => ⟨?_, ?_⟩⟩, ⟨fun b q h => ?_, rl.len, fun k ds h => ?_, rl.inj, rl.lenO, fun k C fs h => ?_, rl.injO, fun b ps h => ?_, tabs_put rl.tab (.inl hp)⟩, upd_same⟩
  · rw [upd_ne (ne_of_none h hp)]; exact h
  · rintro (⟨q', h'⟩ | h' | h')
    · have h'' : upd ω.F p o b = some q' := h'
      rw [upd_ne (ne_of_none h hp)] at h''
      exact n (.inl ⟨q', h''⟩)
    · exact n (.inr (.inl h'))
    · exact n (.inr (.inr h'))
  · have h' : upd ω.F p o b = some q := h
    by_cases hb : b = p
    · subst hb; rw [upd_same] at h' ⊢; exact h'
    · rw [upd_ne hb] at h' ⊢; exact rl.sub _ _ h'
  · obtain ⟨h1, h2, vs, h3, h4⟩ := rl.obj k ds h
    have ne : ω.al k ≠ p := ne_of_none h3 hp
    exact ⟨by show upd ω.F p o (ω.al k) = none; rw [upd_ne ne]; exact h1, h2, vs, by show upd H p o (ω.al k) = _; rw [upd_ne ne]; exact h3, Rps.mono (ω := ω) (ω' := ⟨upd ω.F p o, ω.al, ω.n, ω.ao, ω.m⟩) fx (fun _ _ => rfl) (Nat.le_refl _) (fun _ _ => rfl) (Nat.le_refl _) _ _ h4⟩
  · obtain ⟨h1, h2, dx, gs, h3, h4⟩ := rl.objO k C fs h
    have ne : ω.ao k ≠ p := ne_of_none h3 hp
    exact ⟨by show upd ω.F p o (ω.ao k) = none; rw [upd_ne ne]; exact h1, h2, dx, gs, by show upd H p o (ω.ao k) = _; rw [upd_ne ne]; exact h3, Rpf.mono (ω := ω) (ω' := ⟨upd ω.F p o, ω.al, ω.n, ω.ao, ω.m⟩) fx (fun _ _ => rfl) (Nat.le_refl _) (fun _ _ => rfl) (Nat.le_refl _) _ _ h4⟩
  · have h' : upd ω.F p o b = some (.tbl ps) := h
    by_cases hb : b = p
    · rw [hb, upd_same] at h'; exact ho ps (Option.some.inj h')
    · rw [upd_ne hb] at h'; exact rl.nt b ps h'
theorem Rl.laid {K : PySem.W.Frag} {ω : Wd} {S : Store} {H : Hp} {p : Addr} (rl : Rl K T.toTb ω S H) (hp : H p = none) (o : HO) (ho : ∀ ps, o ≠ .tbl ps := by intro ps z; cases z) :
    ∃ ω', Ext ω S H ω' S (upd H p o) ∧ Rl K T.toTb ω' S (upd H p o) ∧ ω'.F p = some o :=
  let ⟨ω', e, r, h⟩ := rl.toRl0.laid hp o ho
  ⟨ω', e, ⟨r, pin_ext rl e r.sub⟩, h⟩
theorem Rl0.newL {K : PySem.W.Frag} {ω : Wd} {S : Store} {H : Hp} {p : Addr} {ds : List D} {vs : List V} (rl : Rl0 K T.toTb ω S H) (hp : H p = none) (hf : flats ds = true) (r : Rps K T.toTb ω ds vs) :
    ∃ ω', Ext ω S H ω' (S.new ds) (upd H p (.lst vs)) ∧ Rl0 K T.toTb ω' (S.new ds) (upd H p (.lst vs)) ∧ Rp K T.toTb ω' (.ptr S.L.length) (.ref p) := by
  have hF : ω.F p = none := rl.sub.free hp
  have al : ∀ k, k < ω.n → (if k = ω.n then p else ω.al k) = ω.al k := fun k hk => if_neg (Nat.ne_of_lt hk)
  have gl : ∀ {k es}, (S.new ds).get k = some es → (k < ω.n ∧ S.get k = some es) ∨ (k = ω.n ∧ es = ds) := fun {k es} h => by
    unfold Store.get Store.new at h
    simp only at h
    by_cases hk : k < S.L.length
    · rw [List.getElem?_append_left hk] at h
      exact .inl ⟨rl.len ▸ hk, h⟩
    · by_cases hk2 : k = S.L.length
      · subst hk2
        simp at h
        exact .inr ⟨rl.len, h.symm⟩
      · rw [List.getElem?_eq_none (by simp; omega)] at h
        cases h
  have hne : ∀ {k es}, S.get k = some es → ω.al k ≠ p := fun {k es} h => by
    obtain ⟨_, _, _, h3, _⟩ := rl.obj k es h
    exact ne_of_none h3 hp
  have mn : ∀ {es us}, Rps K T.toTb ω es us → Rps K T.toTb ⟨ω.F, fun k => if k = ω.n then p else ω.al k, ω.n + 1, ω.ao, ω.m⟩ es us := fun {es us} h => Rps.mono (ω := ω) (ω' := ⟨ω.F, fun k => if k = ω.n then p else ω.al k, ω.n + 1, ω.ao, ω.m⟩) (fun _ _ h => h) al (Nat.le_succ _) (fun _ _ => rfl) (Nat.le_refl _) _ _ h
  have own : ∀ b, Own ⟨ω.F, fun k => if k = ω.n then p else ω.al k, ω.n + 1, ω.ao, ω.m⟩ (S.new ds) b → b ≠ p → Own ω S b := fun b h hb => by
    rcases h with h | ⟨k, es, h, e⟩ | h
    · exact .inl h
    · rcases gl h with ⟨hk, h'⟩ | ⟨hk, _⟩
      · exact .inr (.inl ⟨k, es, h', (al k hk).symm.trans e⟩)
      · subst hk
        have e' : (if ω.n = ω.n then p else ω.al ω.n) = b := e
        rw [if_pos rfl] at e'
        exact absurd e'.symm hb
    · exact .inr (.inr h)
  refine ⟨⟨ω.F, fun k => if k = ω.n then p else ω.al k, ω.n + 1, ω.ao, ω.m⟩, ⟨fun _ _ h => h, al, Nat.le_succ _, fun _ _ => rfl, Nat.le_refl _, fun k es hk h => ⟨es, (gl h).elim (fun z => z.2) fun z => absurd z.1 (Nat.ne_of_lt hk)⟩, fun b q h _ n => ?_⟩, ⟨fun b q h => ?_, ?_, fun k es h => ?_, fun j k es fs h1 h2 e => ?_, rl.lenO, fun k C fs h => ?_, rl.injO, rl.nt, tabs_put rl.tab (.inl hp)⟩, ?_⟩
  · have hb := ne_of_none h hp
    exact ⟨by rw [upd_ne hb]; exact h, fun z => n (own b z hb)⟩
  · rw [upd_ne (ne_of_none h hF)]; exact rl.sub _ _ h
  · show (S.L ++ [some ds]).length = ω.n + 1
    rw [List.length_append, rl.len]; rfl
  · rcases gl h with ⟨hk, h'⟩ | ⟨hk, e⟩
    · obtain ⟨h1, h2, us, h3, h4⟩ := rl.obj k es h'
      refine ⟨?_, h2, us, ?_, mn h4⟩
      · show ω.F (if k = ω.n then p else ω.al k) = none
        rw [al k hk]; exact h1
      · show upd H p _ (if k = ω.n then p else ω.al k) = _
        rw [al k hk, upd_ne (hne h')]; exact h3
    · subst e
      refine ⟨?_, hf, vs, ?_, mn r⟩
      · show ω.F (if k = ω.n then p else ω.al k) = none
        rw [if_pos hk]; exact hF
      · show upd H p _ (if k = ω.n then p else ω.al k) = _
        rw [if_pos hk, upd_same]
  · have e' : (if j = ω.n then p else ω.al j) = (if k = ω.n then p else ω.al k) := e
    rcases gl h1 with ⟨hj, h1'⟩ | ⟨hj, _⟩ <;> rcases gl h2 with ⟨hk, h2'⟩ | ⟨hk, _⟩
    · rw [al j hj, al k hk] at e'
      exact rl.inj j k _ _ h1' h2' e'
    · rw [al j hj, if_pos hk] at e'
      exact absurd e' (hne h1')
    · rw [al k hk, if_pos hj] at e'
      exact absurd e'.symm (hne h2')
    · rw [hj, hk]
  · obtain ⟨h1, h2, dx, gs, h3, h4⟩ := rl.objO k C fs h
    have ne : ω.ao k ≠ p := ne_of_none h3 hp
    exact ⟨h1, h2, dx, gs, by rw [upd_ne ne]; exact h3, Rpf.mono (ω := ω) (ω' := ⟨ω.F, fun k => if k = ω.n then p else ω.al k, ω.n + 1, ω.ao, ω.m⟩) (fun _ _ h => h) al (Nat.le_succ _) (fun _ _ => rfl) (Nat.le_refl _) _ _ h4⟩
  · unfold Rp
    rw [rl.len]
    exact ⟨Nat.lt_succ_self _, by show _ = V.ref (if ω.n = ω.n then p else ω.al ω.n); rw [if_pos rfl]⟩
theorem Rl.newL {K : PySem.W.Frag} {ω : Wd} {S : Store} {H : Hp} {p : Addr} {ds : List D} {vs : List V} (rl : Rl K T.toTb ω S H) (hp : H p = none) (hf : flats ds = true) (r : Rps K T.toTb ω ds vs) :
    ∃ ω', Ext ω S H ω' (S.new ds) (upd H p (.lst vs)) ∧ Rl K T.toTb ω' (S.new ds) (upd H p (.lst vs)) ∧ Rp K T.toTb ω' (.ptr S.L.length) (.ref p) :=
  let ⟨ω', e, x, h⟩ := rl.toRl0.newL hp hf r
  ⟨ω', e, ⟨x, pin_ext rl e x.sub⟩, h⟩
theorem ge_tup {x1} {k : Nat} (hn : es.length = k := by rfl) (hk : k ≤ 1000 := by decide) (h : GA X T W es ts) (hl : ts.length = k := by rfl) : GE X T W (.Tuple es x1 pos) (eTup ts) := PE.imp (pe_tup h) fun σ H Qv ⟨s, S, ω, rl, rs, q⟩ => by
  refine ⟨s, S, ω, rl, rs, ?_⟩
  have hlen : ∀ {us : List Q.TE} {S : Store} {ds : List D} {S1 : Store}, eArgs us s S = .ok ds S1 → ds.length = us.length := by
    intro us
    induction us with
    | nil => intro S ds S1 e; cases e; rfl
    | cons a as ih =>
      intro S ds S1 e
      unfold eArgs at e
      cases e0 : a s S with
      | ok d S2 =>
        rw [e0] at e
        simp only [Res.bind] at e
        cases e3 : eArgs as s S2 with
        | ok es S3 =>
          rw [e3] at e
          simp only [Res.ok.injEq] at e
          rw [← e.1, List.length_cons, ih e3]; rfl
        | ex x S3 => rw [e3] at e; cases e
        | err => rw [e3] at e; cases e
      | ex x S2 => rw [e0] at e; cases e
      | err => rw [e0] at e; cases e
  unfold eTup at q
  cases e0 : eArgs ts s S with
  | ok ds S' =>
    rw [e0] at q
    intro ω' H' vs e rl' r
    have hd := hlen e0
    refine ⟨by rw [← r.length, hd, hl]; exact Nat.le_trans hk (by rw [sizeLine_eq]; decide), fun p hp => ?_⟩
    obtain ⟨ω2, e2, rl2, hF⟩ := Rl.laid rl' hp (.tup vs)
    exact q ω2 _ _ (e.trans e2) rl2 (by unfold Rp; exact ⟨p, vs, rfl, SqT.of hF, r.ext e2⟩)
  | ex x S' => rw [e0] at q; exact q
  | err => rw [e0] at q; exact q
end
end Q
set_option maxHeartbeats 1000000
namespace Q
open PySem PySem.Spec PyProof.Rows L2
section
variable {K : PySem.W.Frag} {T : Tb} {ω : Wd} {S : Store} {H : Hp}
theorem Rp.int {i : Int} {v : V} (h : Rp K T ω (.int i) v) : v = .int i := by unfold Rp at h; exact h
theorem Rp.str {i : Str} {v : V} (h : Rp K T ω (.str i) v) : v = .str i := by unfold Rp at h; exact h
theorem Rp.bl {i : Bool} {v : V} (h : Rp K T ω (.bl i) v) : v = .bl i := by unfold Rp at h; exact h
theorem Rp.non {v : V} (h : Rp K T ω .non v) : v = .non := by unfold Rp at h; exact h
theorem Rp.mint (i : Int) : Rp K T ω (.int i) (.int i) := by unfold Rp; rfl
theorem Rp.mstr (i : Str) : Rp K T ω (.str i) (.str i) := by unfold Rp; rfl
theorem Rp.mbl (i : Bool) : Rp K T ω (.bl i) (.bl i) := by unfold Rp; rfl
theorem Rp.mnon : Rp K T ω .non .non := by unfold Rp; rfl
theorem Rp.mlst {ds : List D} {vs : List V} {a : Addr} (h : ω.F a = some (.lst vs)) (r : Rps K T ω ds vs) : Rp K T ω (.lst ds) (.ref a) := by unfold Rp; exact ⟨a, vs, rfl, h, r⟩
theorem Rp.mtup {ds : List D} {vs : List V} {a : Addr} (h : SqT K ω.F a vs) (r : Rps K T ω ds vs) : Rp K T ω (.tup ds) (.ref a) := by unfold Rp; exact ⟨a, vs, rfl, h, r⟩
theorem Rp.lst (rl : Rl K T ω S H) {ds : List D} {v : V} (h : Rp K T ω (.lst ds) v) : ∃ a vs, v = .ref a ∧ H a = some (.lst vs) ∧ Rps K T ω ds vs := by
  unfold Rp at h
  obtain ⟨a, vs, e, q, r⟩ := h
  exact ⟨a, vs, e, rl.sub _ _ q, r⟩
theorem Rp.tup (rl : Rl K T ω S H) {ds : List D} {v : V} (h : Rp K T ω (.tup ds) v) : ∃ a vs, v = .ref a ∧ SqT K H a vs ∧ Rps K T ω ds vs := by
  unfold Rp at h
  obtain ⟨a, vs, e, q, r⟩ := h
  exact ⟨a, vs, e, Same.seqT rl.sub q, r⟩
theorem Rp.ptr (rl : Rl K T ω S H) {k : Nat} {ds : List D} {v : V} (h : Rp K T ω (.ptr k) v) (g : S.get k = some ds) : ∃ a vs, v = .ref a ∧ a = ω.al k ∧ H a = some (.lst vs) ∧ Rps K T ω ds vs := by
  unfold Rp at h
  obtain ⟨_, _, vs, h3, h4⟩ := rl.obj k ds g
  exact ⟨_, vs, h.2, rfl, h3, h4⟩
theorem Rp.src (rl : Rl K T ω S H) {ns : List Int} {v : V} (h : Rp K T ω (.src ns) v) : ∃ a, v = .ref a ∧ SqL K H a (ns.map V.int) := by
  unfold Rp at h
  obtain ⟨a, e, q⟩ := h
  exact ⟨a, e, Same.seq rl.sub q⟩
theorem Rp.itemsL (rl : Rl K T ω S H) {d : D} {ds : List D} {v : V} (h : Rp K T ω d v) (g : itemsL S d = some ds) : ∃ a vs, v = .ref a ∧ H a = some (.lst vs) ∧ Rps K T ω ds vs := by
  cases d <;> try (cases g; done)
  · cases g
    exact Rp.lst rl h
  · obtain ⟨a, vs, e, _, q, r⟩ := Rp.ptr rl h g
    exact ⟨a, vs, e, q, r⟩
theorem Rp.itemsLT (rl : Rl K T ω S H) {d : D} {ds : List D} {v : V} (h : Rp K T ω d v) (g : itemsLT S d = some ds) : ∃ a vs, v = .ref a ∧ (SqL K H a vs ∨ SqT K H a vs) ∧ Rps K T ω ds vs := by
  cases d with
  | tup xs =>
    cases g
    obtain ⟨a, vs, e, q, r⟩ := Rp.tup rl h
    exact ⟨a, vs, e, .inr q, r⟩
  | lst xs => obtain ⟨a, vs, e, q, r⟩ := Rp.itemsL rl h g; exact ⟨a, vs, e, .inl (SqL.of q), r⟩
  | ptr k => obtain ⟨a, vs, e, q, r⟩ := Rp.itemsL rl h g; exact ⟨a, vs, e, .inl (SqL.of q), r⟩
  | _ => cases g
end
section
variable {X : Cx} {T : Tx} {W : WX} {a b c e : Expr} {es : List Expr} {ta tb tc : Q.TE} {ts : List Q.TE} {pos : Pos}
theorem PQ.newLst {K : PySem.W.Frag} {ω : Wd} {S : Store} {H : Hp} {ds : List D} {vs : List V} {Qv : VK} (h : PQ K T ω S H (some (.lst ds, S)) Qv) (rl : Rl K T.toTb ω S H) (r : Rps K T.toTb ω ds vs) : ∀ p, H p = none → Qv (.ref p) (upd H p (.lst vs)) := fun p hp => by
  obtain ⟨ω2, e2, rl2, hF⟩ := Rl.laid rl hp (.lst vs)
  exact h ω2 _ _ e2 rl2 (Rp.mlst hF (r.ext e2))
theorem PQ.newTup {K : PySem.W.Frag} {ω : Wd} {S : Store} {H : Hp} {ds : List D} {vs : List V} {Qv : VK} (h : PQ K T ω S H (some (.tup ds, S)) Qv) (rl : Rl K T.toTb ω S H) (r : Rps K T.toTb ω ds vs) : ∀ p, H p = none → Qv (.ref p) (upd H p (.tup vs)) := fun p hp => by
  obtain ⟨ω2, e2, rl2, hF⟩ := Rl.laid rl hp (.tup vs)
  exact h ω2 _ _ e2 rl2 (Rp.mtup (SqT.of hF) (r.ext e2))
def rAddA (K : PySem.W.Frag) : R2 := fun x y H Qv => rI0 (fun i j => .int (i + j)) x y H Qv ∨ (∃ i j, x = .str i ∧ y = .str j ∧ i.length + j.length ≤ sizeLine ∧ Qv (.str (i ++ j)) H) ∨ rCat x y H Qv ∨ rCatA K x y H Qv
theorem or_add : OpR X (binaryOp .Add) (rAddA X.K) := op_add.or (op_add_str.or (op_cat.or op_catA))
theorem ok_add {K : PySem.W.Frag} : Ok2 K T (rAddA K) oAdd := by
  intro ω S H x y u v Qv rl rx ry q
  unfold oAdd at q
  split at q
  · rw [rx.int, ry.int]
    exact .inl ⟨_, _, rfl, rfl, q.now rl (Rp.mint _)⟩
  · split at q
    · rw [rx.str, ry.str]
      exact .inr (.inl ⟨_, _, rfl, rfl, ‹_›, q.now rl (Rp.mstr _)⟩)
    · exact q.elim
  · split at q
    · obtain ⟨p1, vs, rfl, h1, r1⟩ := Rp.lst rl rx
      obtain ⟨p2, ws, rfl, h2, r2⟩ := Rp.lst rl ry
      exact .inr (.inr (.inl ⟨_, _, _, _, rfl, rfl, h1, h2, by rw [← r1.length, ← r2.length]; assumption, q.newLst rl (r1.append r2)⟩))
    · exact q.elim
  · split at q
    · split at q
      · obtain ⟨p1, vs, rfl, _, h1, r1⟩ := Rp.ptr rl rx ‹_›
        obtain ⟨p2, ws, rfl, h2, r2⟩ := Rp.lst rl ry
        exact .inr (.inr (.inl ⟨_, _, _, _, rfl, rfl, h1, h2, by rw [← r1.length, ← r2.length]; assumption, q.newLst rl (r1.append r2)⟩))
      · exact q.elim
    · exact q.elim
  · rename_i xs ys
    split at q
    · unfold Rp at rx ry
      obtain ⟨p1, vs, rfl, h1, r1⟩ := rx
      obtain ⟨p2, ws, rfl, h2, r2⟩ := ry
      have k1 := Same.seqT rl.sub h1
      have k2 := Same.seqT rl.sub h2
      have e1 : vs = [] → xs = [] := fun z => List.eq_nil_of_length_eq_zero (by rw [r1.length, z]; rfl)
      have e2 : ws = [] → ys = [] := fun z => List.eq_nil_of_length_eq_zero (by rw [r2.length, z]; rfl)
      refine .inr (.inr (.inr ⟨_, _, _, _, rfl, rfl, k1, k2, by rw [← r1.length, ← r2.length]; assumption, fun z => ?_, fun _ z => ?_, fun _ _ => q.newTup rl (r1.append r2)⟩))
      · rw [e1 z] at q
        exact q.now rl (Rp.mtup h2 r2)
      · rw [e2 z, List.append_nil] at q
        exact q.now rl (Rp.mtup h1 r1)
    · exact q.elim
  · exact q.elim
theorem ok_sub {K : PySem.W.Frag} : Ok2 K T (rI0 fun i j => .int (i - j)) oSub := by
  intro ω S H x y u v Qv rl rx ry q
  unfold oSub at q
  split at q
  · rw [rx.int, ry.int]
    exact ⟨_, _, rfl, rfl, q.now rl (Rp.mint _)⟩
  · exact q.elim
def repS (z : Str) (n : Nat) : Str := ⟨((List.replicate n z.cps.toList).flatten).toArray⟩
theorem repS_len (z : Str) (n : Nat) : (repS z n).length = z.length * n := by
  unfold repS Str.length
  simp [Nat.mul_comm]
theorem foldl_app : ∀ (l : List (Array Nat)) (acc : Array Nat), (l.foldl (· ++ ·) acc).toList = acc.toList ++ (l.map (·.toList)).flatten
  | [], acc => by simp
  | a :: l, acc => by
    rw [List.foldl_cons, foldl_app l (acc ++ a)]
    simp
def rRepS : R2 := fun x y H Q => ∃ (z : Str) (j : Int), x = .str z ∧ y = .int j ∧ 0 ≤ j ∧ j ≤ 100000 ∧ z.length ≤ 10000 ∧ z.length * j.toNat ≤ sizeLine ∧ Q (.str (repS z j.toNat)) H
theorem op_repS : OpR X (binaryOp .Mult) rRepS := by
  intro pins s σ H x y v u Q I rx ry h
  obtain ⟨z, j, rfl, rfl, h0, h1, h2, h3, q⟩ := h
  obtain ⟨t, rfl⟩ := rx
  obtain ⟨t', rfl⟩ := ry
  refine PySem.P.mul_str ?_ (fun hn _ => ?_) (fun _ _ => ?_) ?_
  · have e1 : ¬ j < -(2 ^ 63 : Int) := by omega
    have e2 : ¬ j ≥ 2 ^ 63 := by omega
    rw [decide_eq_false e1, decide_eq_false e2]; rfl
  · have : (10000 : Int) ≤ (2 ^ 63 - 1) / j := (Int.le_ediv_iff_mul_le (by omega)).mpr (by omega)
    omega
  · unfold PySem.Builtin.Str.tooLong
    exact decide_eq_false (by omega)
  · have lz : (repS z j.toNat).length ≤ sizeLine := by rw [repS_len]; exact h3
    split
    · rename_i hj
      have e : j.toNat = 0 := by omega
      have e2 : repS z j.toNat = Str.empty := by rw [e]; rfl
      rw [e2] at q
      exact ⟨by decide, .str _, H, I.tok _, ⟨_, rfl⟩, q⟩
    · split
      · rename_i hj hk
        have e2 : repS z j.toNat = z := by
          rw [Bool.or_eq_true, beq_iff_eq, beq_iff_eq] at hk
          rcases hk with hk | hk
          · rw [hk]; unfold repS; simp
          · have : z.cps.toList = [] := List.eq_nil_of_length_eq_zero (by simpa [Str.length] using hk)
            unfold repS
            rw [this]
            cases z with
            | mk a =>
              simp at this
              subst this
              simp
        rw [e2] at q
        exact ⟨.str z, H, I, ⟨t, rfl⟩, q⟩
      · have e2 : (⟨(List.replicate j.toNat z.cps).foldl (· ++ ·) #[]⟩ : Str) = repS z j.toNat := by
          unfold repS
          congr 1
          apply Array.toList_inj.mp
          rw [foldl_app]
          simp
        rw [e2]
        exact ⟨lz, .str _, H, I.tok _, ⟨_, rfl⟩, q⟩
def rMulA (K : PySem.W.Frag) : R2 := fun x y H Qv => rI CMul (fun i j => .int (i * j)) x y H Qv ∨ rI CMulW (fun i j => .int (i * j)) x y H Qv ∨ rRep x y H Qv ∨ rRepS x y H Qv ∨ rRepT K x y H Qv
theorem or_mul : OpR X (binaryOp .Mult) (rMulA X.K) := op_mul.or (op_mulW.or (op_rep.or (op_repS.or op_repT)))
theorem Rps.repl {K : PySem.W.Frag} {T : Tb} {ω : Wd} {ds : List D} {vs : List V} (r : Rps K T ω ds vs) : ∀ n : Nat, Rps K T ω (List.replicate n ds).flatten (List.replicate n vs).flatten
  | 0 => Rps.nil
  | n + 1 => by
    rw [List.replicate_succ, List.replicate_succ, List.flatten_cons, List.flatten_cons]
    exact r.append (Rps.repl r n)
theorem ok_mul {K : PySem.W.Frag} : Ok2 K T (rMulA K) oMulL := by
  intro ω S H x y u v Qv rl rx ry q
  unfold oMulL at q
  split at q
  · rw [rx.int, ry.int]
    split at q
    · rename_i h
      simp only [smallI, midI, Bool.or_eq_true, Bool.and_eq_true, decide_eq_true_eq] at h
      rcases h with (h | h) | h
      · exact .inl ⟨_, _, rfl, rfl, .inl h, q.now rl (Rp.mint _)⟩
      · exact .inl ⟨_, _, rfl, rfl, .inr h, q.now rl (Rp.mint _)⟩
      · exact .inr (.inl ⟨_, _, rfl, rfl, by unfold CMulW; omega, q.now rl (Rp.mint _)⟩)
    · exact q.elim
  · split at q
    · rename_i h
      simp only [Bool.and_eq_true, decide_eq_true_eq] at h
      obtain ⟨p1, vs, rfl, h1, r1⟩ := Rp.lst rl rx
      rw [ry.int]
      exact .inr (.inr (.inl ⟨_, _, _, rfl, rfl, h1, h.1.1, h.1.2, by rw [← r1.length]; exact h.2, q.newLst rl (r1.repl _)⟩))
    · exact q.elim
  · split at q
    · rename_i h
      simp only [Bool.and_eq_true, decide_eq_true_eq] at h
      rw [rx.str, ry.int]
      exact .inr (.inr (.inr (.inl ⟨_, _, rfl, rfl, h.1.1.1, h.1.1.2, h.1.2, h.2, q.now rl (Rp.mstr _)⟩)))
    · exact q.elim
  · split at q
    · rename_i h
      simp only [decide_eq_true_eq] at h
      obtain ⟨p1, vs, rfl, h1, r1⟩ := Rp.tup rl rx
      rw [ry.int]
      exact .inr (.inr (.inr (.inr ⟨_, _, _, rfl, rfl, h1, fun z => h.1 (List.eq_nil_of_length_eq_zero (by rw [r1.length, z]; rfl)), h.2.1, h.2.2.1, by rw [← r1.length]; exact h.2.2.2, q.newTup rl (r1.repl _)⟩)))
    · exact q.elim
  · exact q.elim
def rDivA : R2 := fun x y H Qv => rI CDivN (fun i j => .int (i.fdiv j)) x y H Qv ∨ rI CDivW (fun i j => .int (i / j)) x y H Qv
theorem or_div : OpR X (binaryOp .FloorDiv) rDivA := op_fdivN.or op_fdivW
theorem ok_div {K : PySem.W.Frag} : Ok2 K T rDivA oDiv := by
  intro ω S H x y u v Qv rl rx ry q
  unfold oDiv at q
  split at q
  · rename_i i j
    rw [rx.int, ry.int]
    split at q
    · rename_i h
      simp only [divOk, Bool.or_eq_true, Bool.and_eq_true, decide_eq_true_eq] at h
      rcases h with h | h
      · exact .inl ⟨_, _, rfl, rfl, h, q.now rl (Rp.mint _)⟩
      · refine .inr ⟨_, _, rfl, rfl, h, ?_⟩
        have e := Int.fdiv_eq_ediv_of_nonneg i (Int.le_of_lt h.1)
        show Qv (.int (i / j)) H
        rw [← e]
        exact q.now rl (Rp.mint _)
    · exact q.elim
  · exact q.elim
theorem ok_mod {K : PySem.W.Frag} : Ok2 K T (rI (fun _ j => j ≠ 0) fun i j => .int (i.fmod j)) oMod := by
  intro ω S H x y u v Qv rl rx ry q
  unfold oMod at q
  split at q
  · rw [rx.int, ry.int]
    split at q
    · exact q.elim
    · exact ⟨_, _, rfl, rfl, ‹_›, q.now rl (Rp.mint _)⟩
  · exact q.elim
theorem ok_pow {K : PySem.W.Frag} : Ok2 K T (rI CPow fun i j => .int (i ^ j.toNat)) oPow := by
  intro ω S H x y u v Qv rl rx ry q
  unfold oPow at q
  split at q
  · rw [rx.int, ry.int]
    split at q
    · rename_i h
      simp only [Bool.and_eq_true, decide_eq_true_eq] at h
      exact ⟨_, _, rfl, rfl, ⟨h.1.1, h.1.2, h.2⟩, q.now rl (Rp.mint _)⟩
    · exact q.elim
  · exact q.elim
theorem ok_neg {K : PySem.W.Frag} : Ok1 K T (rU fun i => .int (-i)) oNeg := by
  intro ω S H x u Qv rl rx q
  unfold oNeg at q
  split at q
  · rw [rx.int]
    exact ⟨_, rfl, q.now rl (Rp.mint _)⟩
  · exact q.elim
theorem ok_cmp {K : PySem.W.Frag} (f : Int → Int → Bool) : Ok2 K T (rI0 fun i j => .bl (f i j)) (oCmp f) := by
  intro ω S H x y u v Qv rl rx ry q
  unfold oCmp at q
  split at q
  · rw [rx.int, ry.int]
    exact ⟨_, _, rfl, rfl, q.now rl (Rp.mbl _)⟩
  · exact q.elim
mutual
theorem pd_dp {K : PySem.W.Frag} {T : Tb} {ω : Wd} {S : Store} {H : Hp} (rl : Rl K T ω S H) : ∀ (d : D) (v : V) (p : PyData), Rp K T ω d v → d.pd = some p → Dp K H v p
  | .non, v, p, r, e => by rw [r.non]; cases e; exact .non
  | .bl b, v, p, r, e => by rw [r.bl]; cases e; exact .bl b
  | .int b, v, p, r, e => by rw [r.int]; cases e; exact .int b
  | .str b, v, p, r, e => by rw [r.str]; cases e; exact .str b
  | .tup ds, v, p, r, e => by
    obtain ⟨a, vs, rfl, q, rs⟩ := Rp.tup rl r
    unfold D.pd at e
    cases e1 : pds ds with
    | none => rw [e1] at e; cases e
    | some ps =>
      rw [e1] at e
      cases e
      exact .tup q (pds_dp rl ds vs ps rs e1)
  | .lst ds, v, p, r, e => by
    obtain ⟨a, vs, rfl, q, rs⟩ := Rp.lst rl r
    unfold D.pd at e
    cases e1 : pds ds with
    | none => rw [e1] at e; cases e
    | some ps =>
      rw [e1] at e
      cases e
      exact .lst (SqL.of q) (pds_dp rl ds vs ps rs e1)
  | .ins _ _, v, p, r, e => by cases e
  | .dct _, v, p, r, e => by cases e
  | .ptr _, v, p, r, e => by cases e
  | .obj _, v, p, r, e => by cases e
  | .src _, v, p, r, e => by cases e
  | .fn _, v, p, r, e => by cases e
  | .exc _ _, v, p, r, e => by cases e
theorem pds_dp {K : PySem.W.Frag} {T : Tb} {ω : Wd} {S : Store} {H : Hp} (rl : Rl K T ω S H) : ∀ (ds : List D) (vs : List V) (ps : List PyData), Rps K T ω ds vs → pds ds = some ps → DpAll K H vs ps
  | [], vs, ps, r, e => by
    unfold Rps at r
    subst r
    cases e
    exact .nil
  | d :: ds, vs, ps, r, e => by
    unfold Rps at r
    obtain ⟨v, ws, rfl, r1, r2⟩ := r
    unfold pds at e
    cases e1 : d.pd with
    | none => simp [e1] at e
    | some p1 => cases e2 : pds ds with
      | none => simp [e1, e2] at e
      | some p2 =>
        simp [e1, e2] at e
        subst e
        exact .cons (pd_dp rl d v p1 r1 e1) (pds_dp rl ds ws p2 r2 e2)
end
theorem pdT_dp {K : PySem.W.Frag} {T : Tb} {ω : Wd} {S : Store} {H : Hp} (rl : Rl K T ω S H) (d : D) (v : V) (p : PyData) (r : Rp K T ω d v) (e : pdT S d = some p) : Dp K H v p := by
  cases d with
  | ptr k =>
    unfold pdT at e
    simp only at e
    split at e
    · rename_i ds hg
      obtain ⟨a, vs, rfl, _, h1, r1⟩ := Rp.ptr rl r hg
      cases e1 : pds ds with
      | none => rw [e1] at e; cases e
      | some ps =>
        rw [e1] at e
        cases e
        exact .lst (SqL.of h1) (pds_dp rl _ vs ps r1 e1)
    · cases e
  | _ => exact pd_dp rl _ v p r (by unfold pdT at e; exact e)
def rEqA (K : PySem.W.Frag) : R2 := fun x y H Qv => rEq x y H Qv ∨ rEqD K x y H Qv
def rNeA (K : PySem.W.Frag) : R2 := fun x y H Qv => rNe x y H Qv ∨ rNeD K x y H Qv
theorem or_eq (hu : X.A.units + 64 < cLine) : OpR X (compareOp .Eq) (rEqA X.K) := op_eq.or (op_eqD hu)
theorem or_ne (hu : X.A.units + 64 < cLine) : OpR X (compareOp .NotEq) (rNeA X.K) := op_ne.or (op_neD hu)
theorem eqD_ok {K : PySem.W.Frag} {ω : Wd} {S : Store} {H : Hp} {x y : D} {u v : V} {b : Bool} (rl : Rl K T.toTb ω S H) (rx : Rp K T.toTb ω x u) (ry : Rp K T.toTb ω y v) (e : eqD x y S = some b) :
    (scal u v = true ∧ b = decide (u = v)) ∨ ∃ d e, Dp K H u d ∧ Dp K H v e ∧ SeqAt.shaped d = true ∧ SeqAt.shaped e = true ∧ b = PyData.eqv d e := by
  unfold eqD at e
  split at e
  · cases e
    rw [rx.int, ry.int]
    exact .inl ⟨rfl, by simp⟩
  · cases e
    rw [rx.str, ry.str]
    exact .inl ⟨rfl, by simp⟩
  · cases e
    rw [rx.bl, ry.bl]
    exact .inl ⟨rfl, by simp⟩
  · split at e
    · rename_i p q hp hq
      split at e
      · rename_i hs
        rw [Bool.and_eq_true] at hs
        cases e
        exact .inr ⟨p, q, pdT_dp rl _ _ _ rx hp, pdT_dp rl _ _ _ ry hq, hs.1, hs.2, rfl⟩
      · cases e
    · cases e
theorem ok_eq {K : PySem.W.Frag} : Ok2 K T (rEqA K) oEq := by
  intro ω S H x y u v Qv rl rx ry q
  unfold oEq at q
  split at q
  · rename_i b hb
    rcases eqD_ok rl rx ry hb with ⟨h1, h2⟩ | ⟨d, e, h1, h2, h3, h4, h5⟩
    · exact .inl ⟨h1, by rw [← h2]; exact q.now rl (Rp.mbl _)⟩
    · exact .inr ⟨d, e, h1, h2, h3, h4, by rw [← h5]; exact q.now rl (Rp.mbl _)⟩
  · exact q.elim
theorem ok_ne {K : PySem.W.Frag} : Ok2 K T (rNeA K) oNe := by
  intro ω S H x y u v Qv rl rx ry q
  unfold oNe at q
  split at q
  · rename_i b hb
    rcases eqD_ok rl rx ry hb with ⟨h1, h2⟩ | ⟨d, e, h1, h2, h3, h4, h5⟩
    · exact .inl ⟨h1, by rw [← h2]; exact q.now rl (Rp.mbl _)⟩
    · exact .inr ⟨d, e, h1, h2, h3, h4, by rw [← h5]; exact q.now rl (Rp.mbl _)⟩
  · exact q.elim
theorem ixN_len {α β : Type} {xs : List α} {ys : List β} (h : xs.length = ys.length) {i : Int} {x : α} (e : atI xs i = some x) : ∃ (y : β) (j : Nat), atI ys i = some y ∧ xs[j]? = some x ∧ ys[j]? = some y := by
  unfold atI at e ⊢
  cases e1 : ixN xs.length i with
  | none => rw [e1] at e; cases e
  | some j =>
    rw [e1] at e
    have e' : xs[j]? = some x := e
    rw [← h, e1]
    have hj : j < xs.length := (List.getElem?_eq_some_iff.mp e').1
    exact ⟨ys[j]'(h ▸ hj), j, by simp [h ▸ hj], e', by simp [h ▸ hj]⟩
theorem ok_ix {K : PySem.W.Frag} : Ok2 K T (rIx K) oIx := by
  intro ω S H x y u v Qv rl rx ry q
  unfold oIx at q
  split at q
  · split at q
    · split at q
      · rw [rx.str, ry.int]
        exact .inr (.inr ⟨_, _, _, rfl, rfl, ‹_›, ‹_›, q.now rl (Rp.mstr _)⟩)
      · exact q.elim
    · exact q.elim
  · split at q
    · split at q
      · rename_i xs hx _ d hd
        obtain ⟨a, vs, rfl, hq, r⟩ := Rp.itemsLT rl rx hx
        obtain ⟨w, j, e1, e2, e3⟩ := ixN_len r.length hd
        obtain ⟨w', e4, rw'⟩ := r.get e2
        rw [e3] at e4
        cases e4
        rw [ry.int]
        rcases hq with hq | hq
        · exact .inl ⟨_, _, _, _, rfl, rfl, hq, e1, q.now rl rw'⟩
        · exact .inr (.inl ⟨_, _, _, _, rfl, rfl, hq, e1, q.now rl rw'⟩)
      · exact q.elim
    · exact q.elim
  · exact q.elim
theorem tCB_ok {r : List V → Hp → VK → Prop} {f : OpN} (hf : OkN X.K T r f) (σ : L2.St) (H : Hp) (Qv : VK) (h : tEr X.K T W (eN f ts) σ H Qv) : tCB r (tAr X.K T W (eArgs ts)) σ H Qv := by
  obtain ⟨s, S, ω, rl, rs, q⟩ := h
  refine ⟨s, S, ω, rl, rs, (EPg.bind q).mono ?_⟩
  rintro vs H1 ⟨ω1, S1, ds, e1, rl1, r1, q1⟩
  exact hf _ _ _ _ _ _ rl1 r1 (PQ.of q1)
theorem ge_blt {id : String} {x : Str} {p : Pos} {r : List V → Hp → VK → Prop} {f : OpN} (hc : CallR X (.builtin id) r) (hf : OkN X.K T r f) (hg : Gl X x) (hm : X.mg x = none) (hv : bootBuiltins x = some (.builtin id)) (ha : GA X T W (e :: es) ts)
    (hn : x ≠ "__name__" := by decide) (hdb : (x == ("__debug__" : Str)) = false := by decide) (he : starEach (e :: es) X.env = (false, eval e X.env) :: starEach es X.env := by rfl) (hpl : (backTo pos (starEach es X.env)).any (·.1) = false := by rfl) :
    GE X T W (.Call (.Name x p) (e :: es) [] pos) (eN f ts) := PE.imp (pe_callB hc hg hm hv ha hn hdb he hpl) (tCB_ok hf)
theorem ge_ty {id : String} {x : Str} {p : Pos} {r : List V → Hp → VK → Prop} {f : OpN} (hc : CallR X (.type id) r) (hf : OkN X.K T r f) (hg : Gl X x) (hm : X.mg x = none) (hv : bootBuiltins x = some (.type id)) (ha : GA X T W (e :: es) ts)
    (hn : x ≠ "__name__" := by decide) (hdb : (x == ("__debug__" : Str)) = false := by decide) (he : starEach (e :: es) X.env = (false, eval e X.env) :: starEach es X.env := by rfl) (hpl : (backTo pos (starEach es X.env)).any (·.1) = false := by rfl) :
    GE X T W (.Call (.Name x p) (e :: es) [] pos) (eN f ts) := PE.imp (pe_callTy hc hg hm hv ha hn hdb he hpl) (tCB_ok hf)
theorem Rps.one {K : PySem.W.Frag} {T : Tb} {ω : Wd} {d : D} {vs : List V} (h : Rps K T ω [d] vs) : ∃ v, vs = [v] ∧ Rp K T ω d v := by
  unfold Rps at h
  obtain ⟨v, ws, rfl, r, h2⟩ := h
  unfold Rps at h2
  exact ⟨v, by rw [h2], r⟩
theorem Rps.two {K : PySem.W.Frag} {T : Tb} {ω : Wd} {d e : D} {vs : List V} (h : Rps K T ω [d, e] vs) : ∃ v w, vs = [v, w] ∧ Rp K T ω d v ∧ Rp K T ω e w := by
  unfold Rps at h
  obtain ⟨v, ws, rfl, r, h2⟩ := h
  obtain ⟨w, rfl, r2⟩ := Rps.one h2
  exact ⟨v, w, rfl, r, r2⟩
theorem ok_abs {K : PySem.W.Frag} : OkN K T (fun xs H Qv => ∃ i, xs = [.int i] ∧ Qv (.int (if i < 0 then -i else i)) H) oAbs := by
  intro ω S H xs us Qv rl r q
  unfold oAbs at q
  split at q
  · obtain ⟨v, rfl, r1⟩ := r.one
    rw [r1.int]
    exact ⟨_, rfl, q.now rl (Rp.mint _)⟩
  · exact q.elim
def rIntA : List V → Hp → VK → Prop := fun xs H Qv => ((∃ i, xs = [.int i] ∧ Qv (.int i) H) ∨ ∃ k, xs = [.bl k] ∧ Qv (.int (if k then 1 else 0)) H) ∨ ∃ a n, xs = [.str a] ∧ PySem.intText? a = some n ∧ a.length ≤ 640 ∧ Qv (.int n) H
theorem cr_int : CallR X (.type "int") rIntA := call_int1.or call_int_str
theorem ok_int {K : PySem.W.Frag} : OkN K T rIntA oInt := by
  intro ω S H xs us Qv rl r q
  unfold oInt at q
  split at q
  · obtain ⟨v, rfl, r1⟩ := r.one
    rw [r1.int]
    exact .inl (.inl ⟨_, rfl, q.now rl (Rp.mint _)⟩)
  · obtain ⟨v, rfl, r1⟩ := r.one
    rw [r1.bl]
    exact .inl (.inr ⟨_, rfl, q.now rl (Rp.mint _)⟩)
  · obtain ⟨v, rfl, r1⟩ := r.one
    rw [r1.str]
    split at q
    · split at q
      · exact .inr ⟨_, _, rfl, ‹_›, ‹_›, q.now rl (Rp.mint _)⟩
      · exact q.elim
    · exact q.elim
  · exact q.elim
def rLenA (K : PySem.W.Frag) : List V → Hp → VK → Prop := fun xs H Qv => (∃ p ys, xs = [.ref p] ∧ (SqL K H p ys ∨ SqT K H p ys) ∧ Qv (.int ys.length) H) ∨ ∃ z, xs = [.str z] ∧ z.length ≤ sizeLine ∧ Qv (.int z.length) H
theorem or_len : CallR X (.builtin "len") (rLenA X.K) := call_len_seq.or call_len_str
theorem ok_len {K : PySem.W.Frag} : OkN K T (rLenA K) oLen := by
  intro ω S H xs us Qv rl r q
  unfold oLen at q
  split at q
  · obtain ⟨v, rfl, r1⟩ := r.one
    rw [r1.str]
    split at q
    · exact .inr ⟨_, rfl, ‹_›, q.now rl (Rp.mint _)⟩
    · exact q.elim
  · obtain ⟨v, rfl, r1⟩ := r.one
    split at q
    · obtain ⟨p, vs, rfl, h1, r2⟩ := Rp.itemsLT rl r1 ‹_›
      exact .inl ⟨_, _, rfl, h1, by rw [← r2.length]; exact q.now rl (Rp.mint _)⟩
    · exact q.elim
  · exact q.elim
theorem ok_max2 {K : PySem.W.Frag} : OkN K T (fun xs H Qv => ∃ i j, xs = [.int i, .int j] ∧ Qv (.int (if j > i then j else i)) H) oMax2 := by
  intro ω S H xs us Qv rl r q
  unfold oMax2 at q
  split at q
  · obtain ⟨v, w, rfl, r1, r2⟩ := r.two
    rw [r1.int, r2.int]
    exact ⟨_, _, rfl, q.now rl (Rp.mint _)⟩
  · exact q.elim
theorem ok_min2 {K : PySem.W.Frag} : OkN K T (fun xs H Qv => ∃ i j, xs = [.int i, .int j] ∧ Qv (.int (if j < i then j else i)) H) oMin2 := by
  intro ω S H xs us Qv rl r q
  unfold oMin2 at q
  split at q
  · obtain ⟨v, w, rfl, r1, r2⟩ := r.two
    rw [r1.int, r2.int]
    exact ⟨_, _, rfl, q.now rl (Rp.mint _)⟩
  · exact q.elim
theorem vals_of_idx' : ∀ (xs : List V) (us : List Value), us.length = xs.length → (∀ (j : Nat) (u : Value), us[j]? = some u → ∃ x, xs[j]? = some x ∧ RelV x u) → Vals xs us
  | [], [], _, _ => .nil
  | [], _ :: _, h, _ => by simp at h
  | _ :: _, [], h, _ => by simp at h
  | x :: xs, u :: us, h, k => by
    obtain ⟨y, e, r⟩ := k 0 u rfl
    have e' : x = y := by simpa using e
    subst e'
    refine .cons r (vals_of_idx' xs us (by simpa using h) fun j v hj => ?_)
    have := k (j + 1) v (by simpa using hj)
    simpa using this
def sgV (z : Str) : List V := z.cps.toList.map fun c => V.str ⟨#[c]⟩
theorem sg_vals {z : Str} {acc : Array Value} (h : ItemsOf (SignAt z) acc z.cps.size) : Vals (sgV z) acc.toList := by
  unfold sgV
  obtain ⟨h1, h2⟩ := h
  refine vals_of_idx' _ _ ?_ fun j u hj => ?_
  · simp [h1]
  · have hj' : acc[j]? = some u := by simpa using hj
    obtain ⟨hl, e⟩ := Array.getElem?_eq_some_iff.mp hj'
    obtain ⟨c, t, e1, e2⟩ := h2 j u hj'
    exact ⟨V.str ⟨#[c]⟩, by simp [e1], t, e2⟩
def rTupS : List V → Hp → VK → Prop := fun xs H Q => ∃ z, xs = [.str z] ∧ z.length ≤ sizeLine ∧ ∀ l, H l = none → Q (.ref l) (upd H l (.tup (sgV z)))
def rLstS : List V → Hp → VK → Prop := fun xs H Q => ∃ z, xs = [.str z] ∧ z.length ≤ sizeLine ∧ ∀ l, H l = none → Q (.ref l) (upd H l (.lst (sgV z)))
theorem sgV_len (z : Str) : (sgV z).length = z.length := by simp [sgV, Str.length]
theorem cr_tupS (hc : X.calm = true) : CallR X (.type "tuple") rTupS := by
  intro pins s σ H xs us Q I r h
  obtain ⟨z, rfl, hz, q⟩ := h
  obtain ⟨u, rfl, t, rfl⟩ := vals1 r
  refine call_tuple_str (I.ok.hd hc) z t (fun h' tk acc hk hacc => ?_) hz
  have I1 : Inv X pins σ H { s with heap := h', toks := tk } := I.kept (t' := tk) hk
  exact ⟨.ref _, _, I1.laid (t' := tk) (o := .tup (sgV z)) (fun b ob e => Heap.get?_push_of_some _ e) (Nat.le_refl _) ⟨by rw [sgV_len]; exact hz, acc.toList, sg_vals hacc, ⟨_, Heap.get?_push_size _ rfl, rfl, 0, by simp⟩⟩, rfl, q _ (I1.hok.fresh (Nat.le_refl _))⟩
theorem cr_lstS (hc : X.calm = true) : CallR X (.type "list") rLstS := by
  intro pins s σ H xs us Q I r h
  obtain ⟨z, rfl, hz, q⟩ := h
  obtain ⟨u, rfl, t, rfl⟩ := vals1 r
  refine call_list_str (I.ok.hd hc) z t (fun h' tk acc c' hk hl hacc => ?_) hz
  exact ⟨.ref _, _, I.laid (t' := tk) (o := .lst (sgV z)) hk (Nat.le_refl _) ⟨by rw [sgV_len]; exact hz, acc.toList, c', sg_vals hacc, by simpa using hl⟩, rfl, q _ (I.hok.fresh (Nat.le_refl _))⟩
theorem Rps.signs {K : PySem.W.Frag} {T : Tb} {ω : Wd} (z : Str) : Rps K T ω (z.cps.toList.map fun c => .str ⟨#[c]⟩) (sgV z) := by
  unfold sgV
  induction z.cps.toList with
  | nil => exact Rps.nil
  | cons c cs ih => exact Rps.cons (Rp.mstr _) ih
def rTupleOf0 (K : PySem.W.Frag) : List V → Hp → VK → Prop := fun xs H Q => ∃ p ys, xs = [.ref p] ∧ ((SqL K H p ys ∧ ∀ l, H l = none → Q (.ref l) (upd H l (.tup ys))) ∨ (SqT K H p ys ∧ Q (.ref p) H))
def rTupleOf (K : PySem.W.Frag) : List V → Hp → VK → Prop := fun xs H Q => rTupS xs H Q ∨ rTupleOf0 K xs H Q
theorem cr_tupleOf (hc : X.calm = true) : CallR X (.type "tuple") (rTupleOf X.K) := (cr_tupS hc).or call_tuple_of
theorem ok_tupleOf {K : PySem.W.Frag} : OkN K T (rTupleOf K) oTupleOf := by
  intro ω S H xs us Qv rl r q
  unfold oTupleOf at q
  split at q
  · obtain ⟨v, rfl, r1⟩ := r.one
    rw [r1.str]
    split at q
    · exact .inl ⟨_, rfl, ‹_›, q.newTup rl (Rps.signs _)⟩
    · exact q.elim
  · refine .inr ?_
    obtain ⟨v, rfl, r1⟩ := r.one
    split at q
    · rename_i d _ _ ds hd
      cases d with
      | tup ys =>
        cases hd
        unfold Rp at r1
        obtain ⟨p, vs, rfl, h1, r2⟩ := r1
        exact ⟨_, _, rfl, .inr ⟨Same.seqT rl.sub h1, q.now rl (Rp.mtup h1 r2)⟩⟩
      | lst ys =>
        obtain ⟨p, vs, rfl, h1, r2⟩ := Rp.itemsL rl r1 hd
        exact ⟨_, _, rfl, .inl ⟨SqL.of h1, q.newTup rl r2⟩⟩
      | ptr k =>
        obtain ⟨p, vs, rfl, h1, r2⟩ := Rp.itemsL rl r1 hd
        exact ⟨_, _, rfl, .inl ⟨SqL.of h1, q.newTup rl r2⟩⟩
      | _ => cases hd
    · exact q.elim
  · exact q.elim
def rListOf0 (K : PySem.W.Frag) : List V → Hp → VK → Prop := fun xs H Q => ∃ p ys, xs = [.ref p] ∧ (SqL K H p ys ∨ SqT K H p ys) ∧ ∀ l, H l = none → Q (.ref l) (upd H l (.lst ys))
def rListOf (K : PySem.W.Frag) : List V → Hp → VK → Prop := fun xs H Q => rLstS xs H Q ∨ rListOf0 K xs H Q
theorem cr_listOf (hc : X.calm = true) : CallR X (.type "list") (rListOf X.K) := (cr_lstS hc).or call_list_of
theorem ok_listOf {K : PySem.W.Frag} : OkN K T (rListOf K) oListOf := by
  intro ω S H xs us Qv rl r q
  unfold oListOf at q
  split at q
  · obtain ⟨v, rfl, r1⟩ := r.one
    rw [r1.str]
    split at q
    · exact .inl ⟨_, rfl, ‹_›, q.newLst rl (Rps.signs _)⟩
    · exact q.elim
  · refine .inr ?_
    obtain ⟨v, rfl, r1⟩ := r.one
    split at q
    · obtain ⟨p, vs, rfl, h1, r2⟩ := Rp.itemsLT rl r1 ‹_›
      exact ⟨_, _, rfl, h1, q.newLst rl r2⟩
    · exact q.elim
  · exact q.elim
def rAllA (K : PySem.W.Frag) : List V → Hp → VK → Prop := fun vs H Qv => ∃ (a : Addr) (bs : List Bool), vs = [V.ref a] ∧ SqL K H a (bs.map V.bl) ∧ Qv (.bl (bs.all id)) H
theorem ok_all {K : PySem.W.Frag} : OkN K T (rAllA K) oAll := by
  intro ω S H xs us Qv rl r q
  unfold oAll at q
  split at q
  · obtain ⟨v, rfl, r1⟩ := r.one
    split at q
    · obtain ⟨p, vs, rfl, h1, r2⟩ := Rp.lst rl r1
      have e := r2.bls ‹_›
      subst e
      exact ⟨_, _, rfl, SqL.of h1, q.now rl (Rp.mbl _)⟩
    · exact q.elim
  · exact q.elim
theorem eArgs_len {s : Sl} : ∀ {us : List Q.TE} {S : Store} {ds : List D} {S1 : Store}, eArgs us s S = .ok ds S1 → ds.length = us.length := by
  intro us
  induction us with
  | nil => intro S ds S1 e; cases e; rfl
  | cons a as ih =>
    intro S ds S1 e
    unfold eArgs at e
    cases e0 : a s S with
    | ok d S2 =>
      rw [e0] at e
      simp only [Res.bind] at e
      cases e3 : eArgs as s S2 with
      | ok es S3 =>
        rw [e3] at e
        simp only [Res.ok.injEq] at e
        rw [← e.1, List.length_cons, ih e3]; rfl
      | ex x S3 => rw [e3] at e; cases e
      | err => rw [e3] at e; cases e
    | ex x S2 => rw [e0] at e; cases e
    | err => rw [e0] at e; cases e
theorem ge_lst (h : GA X T W es ts) (hl : decide (ts.length ≤ 1000) = true := by rfl) : GE X T W (.List es pos) (eLst ts) := PE.imp (pe_lst h) fun σ H Qv ⟨s, S, ω, rl, rs, q⟩ => by
  refine ⟨s, S, ω, rl, rs, ?_⟩
  unfold eLst at q
  cases e0 : eArgs ts s S with
  | ok ds S' =>
    rw [e0] at q
    intro ω' H' vs e rl' r
    have hd := eArgs_len e0
    refine ⟨by rw [← r.length, hd]; exact Nat.le_trans (of_decide_eq_true hl) (by rw [sizeLine_eq]; decide), fun p hp => ?_⟩
    obtain ⟨ω2, e2, rl2, hF⟩ := Rl.laid rl' hp (.lst vs)
    exact q ω2 _ _ (e.trans e2) rl2 (Rp.mlst hF (r.ext e2))
  | ex x S' => rw [e0] at q; exact q
  | err => rw [e0] at q; exact q
theorem ge_lstM (h : GA X T W es ts) (hl : decide (ts.length ≤ 1000) = true := by rfl) : GE X T W (.List es pos) (eLstM ts) := PE.imp (pe_lst h) fun σ H Qv ⟨s, S, ω, rl, rs, q⟩ => by
  refine ⟨s, S, ω, rl, rs, ?_⟩
  unfold eLstM at q
  cases e0 : eArgs ts s S with
  | ok ds S' =>
    rw [e0] at q
    intro ω' H' vs e rl' r
    have hd := eArgs_len e0
    refine ⟨by rw [← r.length, hd]; exact Nat.le_trans (of_decide_eq_true hl) (by rw [sizeLine_eq]; decide), fun p hp => ?_⟩
    have q1 : EPg X.K T (Rp X.K T.toTb) W σ ω S H (if flats ds then .ok (.ptr S'.L.length) (S'.new ds) else .err) Qv := q
    split at q1
    · obtain ⟨ω2, e2, rl2, hp2⟩ := Rl.newL rl' hp ‹_› r
      exact q1 ω2 _ _ (e.trans e2) rl2 hp2
    · exact q1.elim
  | ex x S' => rw [e0] at q; exact q
  | err => rw [e0] at q; exact q
def Ty.nm : Ty → String
  | .int => "int"
  | .bool => "bool"
  | .str => "str"
  | .tuple => "tuple"
  | .list => "list"
  | .dict => "dict"
theorem tyOf_ok {K : PySem.W.Frag} {T : Tb} {ω : Wd} {S : Store} {H : Hp} {d : D} {v : V} {us : List Ty} (rl : Rl K T ω S H) (r : Rp K T ω d v) (e : Ty.of S d = some us) :
    ∃ t, TyX K H v t ∧ ∀ ty : Ty, PySem.W.kitOne K t (.type ty.nm) = some (us.any (Ty.eqb ty)) := by
  cases d with
  | non => cases e; rw [r.non]; exact ⟨_, .base .non, fun ty => by cases ty <;> rfl⟩
  | bl b => cases e; rw [r.bl]; exact ⟨_, .base (.bl b), fun ty => by cases ty <;> rfl⟩
  | int b => cases e; rw [r.int]; exact ⟨_, .base (.int b), fun ty => by cases ty <;> rfl⟩
  | str b => cases e; rw [r.str]; exact ⟨_, .base (.str b), fun ty => by cases ty <;> rfl⟩
  | tup b =>
    cases e
    obtain ⟨a, vs, rfl, h, _⟩ := Rp.tup rl r
    have k : ∀ ty : Ty, PySem.W.kitOne K (.type "tuple") (.type ty.nm) = some ([Ty.tuple].any (Ty.eqb ty)) := fun ty => by cases ty <;> rfl
    rcases h with (h | ⟨o, h⟩) | ⟨o, its, n, h, hc, _⟩
    · exact ⟨_, .base (.tup h), k⟩
    · exact ⟨_, .fTuple h, k⟩
    · exact ⟨_, .kTuple h hc, k⟩
  | lst b =>
    cases e
    obtain ⟨a, vs, rfl, h, _⟩ := Rp.lst rl r
    exact ⟨_, .base (.lst h), fun ty => by cases ty <;> rfl⟩
  | src b =>
    cases e
    obtain ⟨a, rfl, h⟩ := Rp.src rl r
    have k : ∀ ty : Ty, PySem.W.kitOne K (.type "list") (.type ty.nm) = some ([Ty.list].any (Ty.eqb ty)) := fun ty => by cases ty <;> rfl
    rcases h with (h | ⟨o, h⟩) | ⟨o, its, n, h, hc, _⟩
    · exact ⟨_, .base (.lst h), k⟩
    · exact ⟨_, .base (.frz h), k⟩
    · exact ⟨_, .kList h hc, k⟩
  | dct b =>
    cases e
    unfold Rp at r
    obtain ⟨a, ws, rfl, h, _⟩ := r
    exact ⟨_, .base (.dK (rl.sub _ _ h)), fun ty => by cases ty <;> rfl⟩
  | ptr k =>
    unfold Ty.of at e
    simp only at e
    split at e
    · cases e
      obtain ⟨a, vs, rfl, _, h, _⟩ := Rp.ptr rl r ‹_›
      exact ⟨_, .base (.lst h), fun ty => by cases ty <;> rfl⟩
    · cases e
  | _ => cases e
theorem pe_tyname {x : Str} {n : String} {p : Pos} (hg : Gl X x) (hm : X.mg x = none) (hv : bootBuiltins x = some (.type n)) (hn : x ≠ "__name__" := by decide) (hd : (x == ("__debug__" : Str)) = false := by decide) : PE X (.Name x p) (tC (.ty n)) := pe_bltn hg hm hv rfl hn hd
theorem ge_isi {t : Ty} {p : Pos} (hg : Gl X "isinstance") (hm : X.mg "isinstance" = none) (ha : GE X T W a ta) (hty : PE X b (tC (.ty t.nm)))
    (he : starEach (a :: [b]) X.env = (false, eval a X.env) :: starEach [b] X.env := by rfl) (he2 : starEach (b :: []) X.env = (false, eval b X.env) :: starEach [] X.env := by rfl) (hpl : (backTo pos (starEach [b] X.env)).any (·.1) = false := by rfl) :
    GE X T W (.Call (.Name "isinstance" p) [a, b] [] pos) (e1 (oIsi [t]) ta) := PE.imp (pe_callB call_isi hg hm (by decide +kernel) (pa_cons ha (pa_cons hty pa_nil he2) he) (by decide) (by decide) he hpl) fun σ H Qv ⟨s, S, ω, rl, rs, q⟩ => by
  refine ⟨s, S, ω, rl, rs, (EPg.bind q).mono ?_⟩
  rintro v H1 ⟨ω1, S1, d, e1, rl1, r1, q1⟩
  have q2 := PQ.of q1
  unfold oIsi at q2
  split at q2
  · rename_i us hus
    obtain ⟨tv, h1, h2⟩ := tyOf_ok rl1 r1 hus
    refine ⟨v, .ty t.nm, tv, _, _, rfl, .ty _, h1, h2 t, ?_⟩
    have q3 := q2.now rl1 (Rp.mbl _)
    simpa using q3
  · exact q2.elim
theorem ge_isi2 {t t' : Ty} {p pt : Pos} {k : Nat} {b' : Expr} (hg : Gl X "isinstance") (hm : X.mg "isinstance" = none) (ha : GE X T W a ta) (hty : PE X b (tC (.ty t.nm))) (hty' : PE X b' (tC (.ty t'.nm)))
    (he : starEach (a :: [.Tuple [b, b'] k pt]) X.env = (false, eval a X.env) :: starEach [.Tuple [b, b'] k pt] X.env := by rfl) (he1 : starEach (.Tuple [b, b'] k pt :: []) X.env = (false, eval (.Tuple [b, b'] k pt) X.env) :: starEach [] X.env := by rfl)
    (he2 : starEach (b :: [b']) X.env = (false, eval b X.env) :: starEach [b'] X.env := by rfl) (he3 : starEach (b' :: []) X.env = (false, eval b' X.env) :: starEach [] X.env := by rfl) (hpl : (backTo pos (starEach [.Tuple [b, b'] k pt] X.env)).any (·.1) = false := by rfl) :
    GE X T W (.Call (.Name "isinstance" p) [a, .Tuple [b, b'] k pt] [] pos) (e1 (oIsi [t, t']) ta) :=
  PE.imp (pe_callB call_isiT hg hm (by decide +kernel) (pa_cons ha (pa_cons (pe_tup (pa_cons hty (pa_cons hty' pa_nil he3) he2)) pa_nil he1) he) (by decide) (by decide) he hpl) fun σ H Qv ⟨s, S, ω, rl, rs, q⟩ => by
  refine ⟨s, S, ω, rl, rs, (EPg.bind q).mono ?_⟩
  rintro v H1 ⟨ω1, S1, d, e1, rl1, r1, q1⟩
  refine ⟨by show 2 ≤ sizeLine; rw [sizeLine_eq]; decide, fun tp hp => ?_⟩
  obtain ⟨ω2, e2, rl2, hF⟩ := Rl.laid rl1 hp (.tup [V.ty t.nm, V.ty t'.nm])
  have q2 := PQ.of (EPg.shift e2 q1)
  unfold oIsi at q2
  split at q2
  · rename_i us hus
    obtain ⟨tv, h1, h2⟩ := tyOf_ok rl2 (r1.ext e2) hus
    refine ⟨v, tp, _, tv, _, us.any (Ty.eqb t) || us.any (Ty.eqb t'), rfl, upd_same, .cons (.ty _) (.cons (.ty _) .nil), h1, ?_, ?_⟩
    · show PySem.W.kitAny X.K tv [.type t.nm, .type t'.nm] = _
      simp only [PySem.W.kitAny, h2]
      cases us.any (Ty.eqb t) <;> cases us.any (Ty.eqb t') <;> rfl
    · have q3 := q2.now rl2 (Rp.mbl _)
      simpa using q3
  · exact q2.elim
end
end Q
set_option maxHeartbeats 1000000
namespace Q
open PySem PySem.Spec PyProof.Rows L2
section
variable {K : PySem.W.Frag} {T : Tb} {ω : Wd} {S : Store} {H : Hp}
theorem get_put {k j : Nat} {xs es : List D} (h : (S.put k xs).get j = some es) : (j = k ∧ es = xs) ∨ (j ≠ k ∧ S.get j = some es) := by
  unfold Store.get Store.put at h
  simp only at h
  by_cases hj : k = j
  · subst hj
    by_cases hl : k < S.L.length
    · rw [List.getElem?_set_self hl] at h
      cases h
      exact .inl ⟨rfl, rfl⟩
    · rw [List.getElem?_eq_none (by simpa using hl)] at h
      cases h
  · rw [List.getElem?_set_ne hj] at h
    exact .inr ⟨Ne.symm hj, h⟩
theorem get_del {k j : Nat} {es : List D} (h : (S.del k).get j = some es) : j ≠ k ∧ S.get j = some es := by
  unfold Store.get Store.del at h
  simp only at h
  by_cases hj : k = j
  · subst hj
    by_cases hl : k < S.L.length
    · rw [List.getElem?_set_self hl] at h
      cases h
    · rw [List.getElem?_eq_none (by simpa using hl)] at h
      cases h
  · rw [List.getElem?_set_ne hj] at h
    exact ⟨Ne.symm hj, h⟩
theorem get_cut {n j : Nat} {es : List D} (h : (S.cut n).get j = some es) : j < n ∧ S.get j = some es := by
  unfold Store.get Store.cut at h
  simp only at h
  by_cases hj : j < n
  · rw [List.getElem?_take_of_lt hj] at h
    exact ⟨hj, h⟩
  · rw [List.getElem?_eq_none (by rw [List.length_take]; omega)] at h
    cases h
theorem Rl0.put (rl : Rl0 K T ω S H) {k : Nat} {ds es : List D} {ws : List V} (g : S.get k = some ds) (hf : flats es = true) (r : Rps K T ω es ws) : Ext ω S H ω (S.put k es) (upd H (ω.al k) (.lst ws)) ∧ Rl0 K T ω (S.put k es) (upd H (ω.al k) (.lst ws)) := by
  obtain ⟨hF, _, vs, hH, _⟩ := rl.obj k ds g
  have own : ∀ b, Own ω (S.put k es) b → Own ω S b := fun b h => by
    rcases h with h | ⟨j, fs, h, e⟩ | h
    · exact .inl h
    · rcases get_put h with ⟨rfl, _⟩ | ⟨_, h'⟩
      · exact .inr (.inl ⟨j, ds, g, e⟩)
      · exact .inr (.inl ⟨j, fs, h', e⟩)
    · exact .inr (.inr h)
  refine ⟨⟨fun _ _ h => h, fun _ _ => rfl, Nat.le_refl _, fun _ _ => rfl, Nat.le_refl _, fun j fs _ h => ?_, fun b q h _ n => ⟨?_, fun z => n (own b z)⟩⟩, fun b q h => ?_, ?_, fun j fs h => ?_, fun i j fs gs h1 h2 e => ?_, rl.lenO, fun j C fs h => ?_, rl.injO, rl.nt, tabs_put rl.tab (.inr ⟨_, hH⟩)⟩
  · rcases get_put h with ⟨rfl, _⟩ | ⟨_, h'⟩
    · exact ⟨_, g⟩
    · exact ⟨_, h'⟩
  · have hb : b ≠ ω.al k := fun z => n (.inr (.inl ⟨k, ds, g, z.symm⟩))
    rw [upd_ne hb]; exact h
  · have hb : b ≠ ω.al k := fun z => by rw [z, hF] at h; cases h
    rw [upd_ne hb]; exact rl.sub _ _ h
  · show (S.L.set k (some es)).length = ω.n
    rw [List.length_set]; exact rl.len
  · rcases get_put h with ⟨rfl, rfl⟩ | ⟨hj, h'⟩
    · exact ⟨hF, hf, ws, upd_same, r⟩
    · obtain ⟨a1, a2, us, a3, a4⟩ := rl.obj j fs h'
      exact ⟨a1, a2, us, by rw [upd_ne fun z => hj (rl.inj j k _ _ h' g z)]; exact a3, a4⟩
  · have f : ∀ {i fs}, (S.put k es).get i = some fs → ∃ gs, S.get i = some gs := fun {i fs} h => by
      rcases get_put h with ⟨rfl, _⟩ | ⟨_, h'⟩
      · exact ⟨_, g⟩
      · exact ⟨_, h'⟩
    obtain ⟨_, z1⟩ := f h1
    obtain ⟨_, z2⟩ := f h2
    exact rl.inj i j _ _ z1 z2 e
  · obtain ⟨a1, a2, dx, gs, a3, a4⟩ := rl.objO j C fs h
    exact ⟨a1, a2, dx, gs, by rw [upd_ne fun z => by rw [z, hH] at a3; cases a3]; exact a3, a4⟩
theorem Rl0.frz (rl : Rl0 K T ω S H) {k : Nat} {ds : List D} {vs : List V} (g : S.get k = some ds) (hH : H (ω.al k) = some (.lst vs)) (r : Rps K T ω ds vs) :
    ∃ ω', Ext ω S H ω' (S.del k) H ∧ Rl0 K T ω' (S.del k) H ∧ ω'.F (ω.al k) = some (.lst vs) := by
  obtain ⟨hF, _⟩ := rl.obj k ds g
  have fx : Same ω.F (upd ω.F (ω.al k) (.lst vs)) := fun b q h => by rw [upd_ne (ne_of_none h hF)]; exact h
  have mn : ∀ {es us}, Rps K T ω es us → Rps K T ⟨upd ω.F (ω.al k) (.lst vs), ω.al, ω.n, ω.ao, ω.m⟩ es us := fun {es us} h => Rps.mono (ω := ω) (ω' := ⟨upd ω.F (ω.al k) (.lst vs), ω.al, ω.n, ω.ao, ω.m⟩) fx (fun _ _ => rfl) (Nat.le_refl _) (fun _ _ => rfl) (Nat.le_refl _) _ _ h
  have own : ∀ b, Own ⟨upd ω.F (ω.al k) (.lst vs), ω.al, ω.n, ω.ao, ω.m⟩ (S.del k) b → Own ω S b := fun b h => by
    rcases h with ⟨q, h⟩ | ⟨j, fs, h, e⟩ | h
    · by_cases hb : b = ω.al k
      · exact .inr (.inl ⟨k, ds, g, hb.symm⟩)
      · have h' : upd ω.F (ω.al k) (.lst vs) b = some q := h
        rw [upd_ne hb] at h'
        exact .inl ⟨q, h'⟩
    · exact .inr (.inl ⟨j, fs, (get_del h).2, e⟩)
    · exact .inr (.inr h)
  refine ⟨⟨upd ω.F (ω.al k) (.lst vs), ω.al, ω.n, ω.ao, ω.m⟩, ⟨fx, fun _ _ => rfl, Nat.le_refl _, fun _ _ => rfl, Nat.le_refl _, fun j fs _ h => ⟨_, (get_del h).2⟩, fun b q h _ n => ⟨h, fun z => n (own b z)⟩⟩, ⟨fun b q h => ?_, ?_, fun j fs h => ?_, fun i j fs gs h1 h2 e => ?_, rl.lenO, fun j C fs h => ?_, rl.injO, fun b ps h => ?_, rl.tab⟩, upd_same⟩
  · by_cases hb : b = ω.al k
    · have h' : upd ω.F (ω.al k) (.lst vs) b = some q := h
      rw [hb, upd_same] at h'
      rw [hb, hH]; exact h'
    · have h' : upd ω.F (ω.al k) (.lst vs) b = some q := h
      rw [upd_ne hb] at h'
      exact rl.sub _ _ h'
  · show (S.L.set k none).length = ω.n
    rw [List.length_set]; exact rl.len
  · obtain ⟨hj, h'⟩ := get_del h
    obtain ⟨a1, a2, us, a3, a4⟩ := rl.obj j fs h'
    refine ⟨?_, a2, us, a3, mn a4⟩
    show upd ω.F (ω.al k) _ (ω.al j) = none
    rw [upd_ne fun z => hj (rl.inj j k _ _ h' g z)]; exact a1
  · exact rl.inj i j _ _ (get_del h1).2 (get_del h2).2 e
  · obtain ⟨a1, a2, dx, gs, a3, a4⟩ := rl.objO j C fs h
    refine ⟨?_, a2, dx, gs, a3, Rpf.mono (ω := ω) (ω' := ⟨upd ω.F (ω.al k) (.lst vs), ω.al, ω.n, ω.ao, ω.m⟩) fx (fun _ _ => rfl) (Nat.le_refl _) (fun _ _ => rfl) (Nat.le_refl _) _ _ a4⟩
    show upd ω.F (ω.al k) _ (ω.ao j) = none
    rw [upd_ne fun z => by rw [z, hH] at a3; cases a3]; exact a1
  · have h' : upd ω.F (ω.al k) (.lst vs) b = some (.tbl ps) := h
    by_cases hb : b = ω.al k
    · rw [hb, upd_same] at h'; cases h'
    · rw [upd_ne hb] at h'; exact rl.nt b ps h'
theorem Rl0.cut {ω0 : Wd} {S0 : Store} {H0 : Hp} (rl0 : Rl0 K T ω0 S0 H0) (rl : Rl0 K T ω S H) (e : Ext ω0 S0 H0 ω S H) : ∃ ω', Ext ω0 S0 H0 ω' (S.cut S0.L.length) H ∧ Rl0 K T ω' (S.cut S0.L.length) H ∧ (∀ d v, d.flat = true → Rp K T ω d v → Rp K T ω' d v) ∧ ω'.F = ω.F ∧
    (∀ ds vs, flats ds = true → Rps K T ω ds vs → Rps K T ω' ds vs) := by
  have fl : ∀ d v, d.flat = true → Rp K T ω d v → Rp K T ⟨ω.F, ω.al, ω0.n, ω.ao, ω.m⟩ d v := fun d v f r => Rp.flat (ω := ω) (ω' := ⟨ω.F, ω.al, ω0.n, ω.ao, ω.m⟩) (fun _ _ h => h) (fun _ _ => rfl) (Nat.le_refl _) d v f r
  have fls : ∀ d v, flats d = true → Rps K T ω d v → Rps K T ⟨ω.F, ω.al, ω0.n, ω.ao, ω.m⟩ d v := fun d v f r => Rps.flat (ω := ω) (ω' := ⟨ω.F, ω.al, ω0.n, ω.ao, ω.m⟩) (fun _ _ h => h) (fun _ _ => rfl) (Nat.le_refl _) d v f r
  refine ⟨⟨ω.F, ω.al, ω0.n, ω.ao, ω.m⟩, ⟨e.fix, e.al, Nat.le_refl _, e.ao, e.lenO, fun k es hk h => e.live k es hk (get_cut h).2, fun b q h t n => ?_⟩, ⟨rl.sub, ?_, fun j fs h => ?_, fun i j fs gs h1 h2 q => ?_, rl.lenO, fun j C fs h => ?_, rl.injO, rl.nt, rl.tab⟩, fl, rfl, fls⟩
  · obtain ⟨h1, n1⟩ := e.frame b q h t n
    refine ⟨h1, fun z => n1 ?_⟩
    rcases z with z | ⟨j, fs, h, e⟩ | z
    · exact .inl z
    · exact .inr (.inl ⟨j, fs, (get_cut h).2, e⟩)
    · exact .inr (.inr z)
  · show (S.L.take S0.L.length).length = ω0.n
    rw [List.length_take, rl.len, rl0.len]
    have := e.len
    omega
  · obtain ⟨a1, a2, us, a3, a4⟩ := rl.obj j fs (get_cut h).2
    exact ⟨a1, a2, us, a3, fls _ _ a2 a4⟩
  · exact rl.inj i j _ _ (get_cut h1).2 (get_cut h2).2 q
  · obtain ⟨a1, a2, dx, gs, a3, a4⟩ := rl.objO j C fs h
    exact ⟨a1, a2, dx, gs, a3, Rpf.flat (ω := ω) (ω' := ⟨ω.F, ω.al, ω0.n, ω.ao, ω.m⟩) (fun _ _ h => h) (fun _ _ => rfl) (Nat.le_refl _) _ _ a2 a4⟩
theorem Rl.put (rl : Rl K T ω S H) {k : Nat} {ds es : List D} {ws : List V} (g : S.get k = some ds) (hf : flats es = true) (r : Rps K T ω es ws) : Ext ω S H ω (S.put k es) (upd H (ω.al k) (.lst ws)) ∧ Rl K T ω (S.put k es) (upd H (ω.al k) (.lst ws)) :=
  let ⟨e, x⟩ := rl.toRl0.put g hf r
  ⟨e, ⟨x, pin_ext rl e x.sub⟩⟩
theorem Rl.frz (rl : Rl K T ω S H) {k : Nat} {ds : List D} {vs : List V} (g : S.get k = some ds) (hH : H (ω.al k) = some (.lst vs)) (r : Rps K T ω ds vs) :
    ∃ ω', Ext ω S H ω' (S.del k) H ∧ Rl K T ω' (S.del k) H ∧ ω'.F (ω.al k) = some (.lst vs) :=
  let ⟨ω', e, x, h⟩ := rl.toRl0.frz g hH r
  ⟨ω', e, ⟨x, pin_ext rl e x.sub⟩, h⟩
theorem Rl.cut {ω0 : Wd} {S0 : Store} {H0 : Hp} (rl0 : Rl K T ω0 S0 H0) (rl : Rl K T ω S H) (e : Ext ω0 S0 H0 ω S H) : ∃ ω', Ext ω0 S0 H0 ω' (S.cut S0.L.length) H ∧ Rl K T ω' (S.cut S0.L.length) H ∧ (∀ d v, d.flat = true → Rp K T ω d v → Rp K T ω' d v) ∧ ω'.F = ω.F ∧
    (∀ ds vs, flats ds = true → Rps K T ω ds vs → Rps K T ω' ds vs) :=
  let ⟨ω', e', x, h⟩ := rl0.toRl0.cut rl.toRl0 e
  ⟨ω', e', ⟨x, pin_ext rl0 e' x.sub⟩, h⟩
end
section
variable {X : Cx} {T : Tx} {W : WX} {a b c e : Expr} {es : List Expr} {ta tb tc : Q.TE} {ts : List Q.TE} {pos : Pos}
theorem ge_mstr {id : String} {name : Str} {apos : Pos} {r : V → List V → Hp → VK → Prop} {f : OpN} (slot : Slot "str" name id) (ty : typeOf (.builtin id) = pure (.type "method_descriptor")) (rule : MtR X id r) (hf : OkN X.K T (fun xs H Qv => ∃ x ys, xs = x :: ys ∧ r x ys H Qv) f) (ho : GE X T W a ta) (he : GE X T W b tb)
    (hs : starEach [b] X.env = [(false, eval b X.env)] := by rfl) (hbase : attributeBase a name X.env (eval a X.env) = eval a X.env := by rfl) (hline : (apos.endLine == pos.line) = true := by rfl) :
    GE X T W (.Call (.Attribute a name apos) [b] [] pos) (eM isStrD f ta [tb]) := PE.imp (pe_m1 slot ty rule ho he hs hbase hline) fun σ H Qv ⟨s, S, ω, rl, rs, q⟩ => by
  refine ⟨s, S, ω, rl, rs, (EPg.bind q).mono ?_⟩
  rintro v H1 ⟨ω1, S1, d, e1, rl1, r1, q1⟩
  split at q1
  · cases d <;> try (rename_i z; cases z; done)
    refine ⟨⟨_, r1.str⟩, s, S1, ω1, rl1, rs.ext e1, ?_⟩
    rename_i z _
    cases e2 : tb s S1 with
    | ok d2 S2 =>
      have q2 : EPg X.K T (Rp X.K T.toTb) W σ ω1 S1 H1 (ofO (f [.str z, d2] S2)) Qv := by simpa [eArgs, e2, Res.bind] using q1
      intro ω2 H2 w e3 rl2 r2
      obtain ⟨x, ys, hxy, h⟩ := hf _ _ _ _ _ _ rl2 (Rps.cons (r1.ext e3) (Rps.cons r2 Rps.nil)) (PQ.of (EPg.shift e3 q2))
      cases hxy
      exact h
    | ex x S2 =>
      have q2 : EPg X.K T (Rp X.K T.toTb) W σ ω1 S1 H1 (.ex x S2) Qv := by simpa [eArgs, e2, Res.bind] using q1
      exact q2
    | err =>
      have q2 : EPg X.K T (Rp X.K T.toTb) W σ ω1 S1 H1 .err Qv := by simpa [eArgs, e2, Res.bind] using q1
      exact q2
  · exact q1.elim
theorem ok_join {K : PySem.W.Frag} : OkN K T (fun xs H Qv => ∃ x ys, xs = x :: ys ∧ (fun x xs H Qv => ∃ a p, ∃ ys : List Str, x = .str a ∧ xs = [.ref p] ∧ (SqL K H p (ys.map V.str) ∨ SqT K H p (ys.map V.str)) ∧ (ys.map (·.length)).sum + ys.length * a.length ≤ 16777216 ∧ Qv (.str (Txt.join a ys)) H) x ys H Qv) oJoin := by
  intro ω S H xs us Qv rl r q
  unfold oJoin at q
  split at q
  · obtain ⟨v, w, rfl, r1, r2⟩ := r.two
    split at q
    · split at q
      · obtain ⟨p, vs, rfl, h1, r3⟩ := Rp.lst rl r2
        have e := r3.strs ‹_›
        subst e
        exact ⟨_, _, rfl, _, p, _, r1.str, rfl, .inl (SqL.of h1), ‹_›, q.now rl (Rp.mstr _)⟩
      · exact q.elim
    · exact q.elim
  · exact q.elim
theorem ge_join {apos : Pos} (ho : GE X T W a ta) (he : GE X T W b tb) (hs : starEach [b] X.env = [(false, eval b X.env)] := by rfl) (hbase : attributeBase a "join" X.env (eval a X.env) = eval a X.env := by rfl) (hline : (apos.endLine == pos.line) = true := by rfl) :
    GE X T W (.Call (.Attribute a "join" apos) [b] [] pos) (eM isStrD oJoin ta [tb]) := ge_mstr F.slot_str_join F.type_str_join mt_join ok_join ho he hs hbase hline
theorem Ext.wasLive {ω ω' : Wd} {S S' : Store} {H H' : Hp} (e : Ext ω S H ω' S' H') {k : Nat} {es : List D} (hk : k < ω.n) (h : S'.get k = some es) : ∃ ds, S.get k = some ds := e.live k es hk h
theorem tBM_ok {r : V → List V → Hp → VK → Prop} {f : OpN} (hf : OkN X.K T (fun xs H Qv => ∃ x ys, xs = x :: ys ∧ r x ys H Qv) f) (σ : L2.St) (H : Hp) (Qv : VK) (h : tEr X.K T W (eM isLstD f ta ts) σ H Qv) : tBM X.K "list" r (tEr X.K T W ta) (tAr X.K T W (eArgs ts)) σ H Qv := by
  obtain ⟨s, S, ω, rl, rs, q⟩ := h
  refine ⟨s, S, ω, rl, rs, (EPg.bind q).mono ?_⟩
  rintro v H1 ⟨ω1, S1, d, e1, rl1, r1, q1⟩
  split at q1
  · rename_i hc
    unfold isLstD at hc
    cases g : itemsL S1 d with
    | none => rw [g] at hc; cases hc
    | some ds =>
      obtain ⟨p, vs, rfl, h1, _⟩ := Rp.itemsL rl1 r1 g
      refine ⟨.inl ⟨rfl, _, SqL.of h1⟩, s, S1, ω1, rl1, rs.ext e1, (EPg.bind q1).mono ?_⟩
      rintro ws H2 ⟨ω2, S2, es, e2, rl2, r2, q2⟩
      obtain ⟨x, ys, hxy, h⟩ := hf _ _ _ _ _ _ rl2 (Rps.cons (r1.ext e2) r2) (PQ.of q2)
      cases hxy
      exact h
  · exact q1.elim
theorem ge_mlst {id : String} {name : Str} {apos : Pos} {r : V → List V → Hp → VK → Prop} {f : OpN} (slot : Slot "list" name id) (hty : typeOf (.builtin id) = pure (.type "method_descriptor")) (hm : MtR X id r) (hf : OkN X.K T (fun xs H Qv => ∃ x ys, xs = x :: ys ∧ r x ys H Qv) f) (ho : GE X T W a ta) (ha : GA X T W (e :: es) ts)
    (hbase : attributeBase a name X.env (eval a X.env) = eval a X.env := by rfl)
    (hfew : ((backTo pos (starEach (e :: es) X.env)).all (fun x => !x.1) && (backToKw pos (keywordEach [] X.env)).all (fun x => x.1.isSome)
      && decide ((e :: es).length + ([] : List Keyword).length + (if ([] : List Keyword).isEmpty then 0 else 1) < 30)) = true := by rfl)
    (hline : (apos.endLine == pos.line) = true := by rfl) (hs : starEach (e :: es) X.env = (false, eval e X.env) :: starEach es X.env := by rfl) (hplain : (backTo pos (starEach es X.env)).any (·.1) = false := by rfl) :
    GE X T W (.Call (.Attribute a name apos) (e :: es) [] pos) (eM isLstD f ta ts) := PE.imp (pe_bm PySem.F.plainAttrs_list slot hty hm ho ha hbase hfew hline hs hplain) (tBM_ok hf)
theorem ge_mlst0 {id : String} {name : Str} {apos : Pos} {r : V → List V → Hp → VK → Prop} {f : OpN} (slot : Slot "list" name id) (hty : typeOf (.builtin id) = pure (.type "method_descriptor")) (hm : MtR X id r) (hf : OkN X.K T (fun xs H Qv => ∃ x ys, xs = x :: ys ∧ r x ys H Qv) f) (ho : GE X T W a ta)
    (hbase : attributeBase a name X.env (eval a X.env) = eval a X.env := by rfl) (hline : (apos.endLine == pos.line) = true := by rfl) :
    GE X T W (.Call (.Attribute a name apos) [] [] pos) (eM isLstD f ta []) := PE.imp (pe_bm0 PySem.F.plainAttrs_list slot hty hm ho hbase hline) fun σ H Qv h => by
  obtain ⟨s, S, ω, rl, rs, q⟩ := tBM_ok (ts := []) hf σ H Qv h
  refine ⟨s, S, ω, rl, rs, q.mono ?_⟩
  rintro v H1 ⟨h1, s2, S2, ω2, rl2, rs2, q2⟩
  exact ⟨h1, q2.now rl2 Rps.nil⟩
theorem flats_app {ds es : List D} : flats (ds ++ es) = (flats ds && flats es) := by
  induction ds with
  | nil => simp [flats]
  | cons d ds ih => simp [flats, ih, Bool.and_assoc]
theorem ok_append {K : PySem.W.Frag} : OkN K T (fun xs H Qv => ∃ x ys, xs = x :: ys ∧ rAppend x ys H Qv) oAppend := by
  intro ω S H xs us Qv rl r q
  unfold oAppend at q
  split at q
  · obtain ⟨v, w, rfl, r1, r2⟩ := r.two
    split at q
    · rename_i k d _ ds g
      split at q
      · rename_i hc
        rw [Bool.and_eq_true] at hc
        obtain ⟨p, vs, rfl, rfl, h1, r3⟩ := Rp.ptr rl r1 g
        have hf := (rl.obj k ds g).2.1
        have z := rl.put (es := ds ++ [d]) g (by rw [flats_app, hf]; simp [flats, hc.2]) (r3.append (Rps.cons r2 Rps.nil))
        exact ⟨_, _, rfl, _, _, _, rfl, rfl, h1, by rw [← r3.length]; exact of_decide_eq_true hc.1, q ω _ _ z.1 z.2 Rp.mnon⟩
      · exact q.elim
    · exact q.elim
  · exact q.elim
theorem flats_all {ds : List D} : flats ds = true ↔ ∀ d ∈ ds, d.flat = true := by
  induction ds with
  | nil => simp [flats]
  | cons d ds ih => simp [flats, ih]
theorem flats_sub {ds es : List D} (h : flats ds = true) (s : ∀ d ∈ es, d ∈ ds) : flats es = true := flats_all.mpr fun d hd => flats_all.mp h d (s d hd)
theorem ok_pop {K : PySem.W.Frag} : OkN K T (fun xs H Qv => ∃ x ys, xs = x :: ys ∧ rPop x ys H Qv) oPop := by
  intro ω S H xs us Qv rl r q
  unfold oPop at q
  split at q
  · obtain ⟨v, rfl, r1⟩ := r.one
    split at q
    · rename_i k _ ds g
      split at q
      · rename_i d hd
        obtain ⟨p, vs, rfl, rfl, h1, r3⟩ := Rp.ptr rl r1 g
        have hf := (rl.obj k ds g).2.1
        obtain ⟨w, hw, rw'⟩ := r3.get hd
        have z := rl.put (es := ds.dropLast) g (flats_sub hf fun d hd => List.dropLast_subset _ hd) r3.dropLast
        exact ⟨_, _, rfl, _, _, w, rfl, rfl, h1, by rw [← r3.length]; exact hw, q ω _ _ z.1 z.2 (rw'.ext z.1)⟩
      · exact q.elim
    · exact q.elim
  · exact q.elim
def rSlB (K : PySem.W.Frag) : V → Option Int → Option Int → Hp → VK → Prop := fun x lo hi H Qv => rSlL K x lo hi H Qv ∨ rSlS x lo hi H Qv ∨ rSlA K x lo hi H Qv
theorem or_sl : SlR X (rSlB X.K) := sl_list.or (sl_str.or sl_tupA)
theorem Rps.cut {K : PySem.W.Frag} {T : Tb} {ω : Wd} {ds : List D} {vs : List V} (r : Rps K T ω ds vs) (lo hi : Option Int) : Rps K T ω (cutD ds lo hi) (cutV vs lo hi) := by
  unfold cutD cutV
  rw [r.length]
  exact (r.drop _).take _
theorem cutD_map {α β : Type} (f : α → β) (xs : List α) (lo hi : Option Int) : cutD (xs.map f) lo hi = (cutD xs lo hi).map f := by
  unfold cutD
  rw [List.length_map, List.map_take, List.map_drop]
theorem cutV_eq (vs : List V) (lo hi : Option Int) : cutV vs lo hi = cutD vs lo hi := rfl
theorem cut_str (z : Str) (lo hi : Option Int) : cutS z lo hi = ⟨(cutD z.cps.toList lo hi).toArray⟩ := by
  unfold cutS cutD
  simp [Str.length]
theorem ok_cut {K : PySem.W.Frag} {ω : Wd} {S : Store} {H : Hp} {d : D} {v : V} {lo hi : Option Int} {Qv : VK} (rl : Rl K T.toTb ω S H) (r : Rp K T.toTb ω d v) (q : PQ K T ω S H (oCut d lo hi S) Qv) : rSlB K v lo hi H Qv := by
  unfold oCut at q
  split at q
  · obtain ⟨a, vs, rfl, h, r1⟩ := Rp.lst rl r
    exact .inl ⟨a, vs, rfl, SqL.of h, q.newLst rl (r1.cut lo hi)⟩
  · unfold Rp at r
    obtain ⟨a, vs, rfl, h, r1⟩ := r
    refine .inr (.inr ⟨a, vs, rfl, Same.seqT rl.sub h, fun hw => ?_, fun _ => q.newTup rl (r1.cut lo hi)⟩)
    have e : ∀ {α : Type} (ys : List α), ys.length = vs.length → cutD ys lo hi = ys := fun ys hl => by
      unfold cutD
      rw [hl, hw.1, hw.2, List.drop_zero, Nat.sub_zero, ← hl, List.take_length]
    rw [e _ r1.length] at q
    exact q.now rl (Rp.mtup h r1)
  · obtain ⟨a, rfl, h⟩ := Rp.src rl r
    refine .inl ⟨a, _, rfl, h, q.newLst rl ?_⟩
    rw [cutV_eq, cutD_map]
    exact Rps.of_ints _
  · rw [r.str]
    split at q
    · exact .inr (.inl ⟨_, rfl, ‹_›, by rw [cut_str]; exact q.now rl (Rp.mstr _)⟩)
    · exact q.elim
  · exact q.elim
theorem part_ok {ω : Wd} {d : D} {v : V} {S : Store} {σ : L2.St} {H : Hp} {Qv : VK} {k : Option Int → Store → Res D} (r : Rp X.K T.toTb ω d v) (q : EPg X.K T (Rp X.K T.toTb) W σ ω S H (partK k d S) Qv) :
    ∃ i, v = .int i ∧ EPg X.K T (Rp X.K T.toTb) W σ ω S H (k (some i) S) Qv := by
  cases d <;> try exact q.elim
  exact ⟨_, r.int, q⟩
theorem ge_cutL {lo : Expr} {tl : Q.TE} {p2 : Pos} (ha : GE X T W a ta) (hl : GE X T W lo tl) : GE X T W (.Subscript a (.Slice (some lo) none none p2) pos) (eCutL ta tl) := PE.imp (pe_slice or_sl ha (po_some hl) po_none) fun σ H Qv ⟨s, S, ω, rl, rs, q⟩ => by
  refine ⟨s, S, ω, rl, rs, (EPg.bind q).mono ?_⟩
  rintro v H1 ⟨ω1, S1, d, e1, rl1, r1, q1⟩
  refine ⟨s, S1, ω1, rl1, rs.ext e1, (EPg.bind q1).mono ?_⟩
  rintro w H2 ⟨ω2, S2, d2, e2, rl2, r2, q2⟩
  obtain ⟨i, rfl, q3⟩ := part_ok r2 q2
  exact ⟨i, rfl, ok_cut rl2 (r1.ext e2) (PQ.of q3)⟩
theorem ge_cutU {hi : Expr} {th : Q.TE} {p2 : Pos} (ha : GE X T W a ta) (hl : GE X T W hi th) : GE X T W (.Subscript a (.Slice none (some hi) none p2) pos) (eCutU ta th) := PE.imp (pe_slice or_sl ha po_none (po_some hl)) fun σ H Qv ⟨s, S, ω, rl, rs, q⟩ => by
  refine ⟨s, S, ω, rl, rs, (EPg.bind q).mono ?_⟩
  rintro v H1 ⟨ω1, S1, d, e1, rl1, r1, q1⟩
  refine ⟨s, S1, ω1, rl1, rs.ext e1, (EPg.bind q1).mono ?_⟩
  rintro w H2 ⟨ω2, S2, d2, e2, rl2, r2, q2⟩
  obtain ⟨i, rfl, q3⟩ := part_ok r2 q2
  exact ⟨i, rfl, ok_cut rl2 (r1.ext e2) (PQ.of q3)⟩
theorem ge_cutLU {lo hi : Expr} {tl th : Q.TE} {p2 : Pos} (ha : GE X T W a ta) (hl : GE X T W lo tl) (hh : GE X T W hi th) : GE X T W (.Subscript a (.Slice (some lo) (some hi) none p2) pos) (eCutLU ta tl th) := PE.imp (pe_slice or_sl ha (po_some hl) (po_some hh)) fun σ H Qv ⟨s, S, ω, rl, rs, q⟩ => by
  refine ⟨s, S, ω, rl, rs, (EPg.bind q).mono ?_⟩
  rintro v H1 ⟨ω1, S1, d, e1, rl1, r1, q1⟩
  refine ⟨s, S1, ω1, rl1, rs.ext e1, (EPg.bind q1).mono ?_⟩
  rintro w H2 ⟨ω2, S2, d2, e2, rl2, r2, q2⟩
  obtain ⟨i, rfl, q3⟩ := part_ok r2 q2
  refine ⟨i, rfl, s, S2, ω2, rl2, (rs.ext e1).ext e2, (EPg.bind q3).mono ?_⟩
  rintro u H3 ⟨ω3, S3, d3, e3, rl3, r3, q4⟩
  obtain ⟨j, rfl, q5⟩ := part_ok r3 q4
  exact ⟨j, rfl, ok_cut rl3 ((r1.ext e2).ext e3) (PQ.of q5)⟩
end
end Q
set_option maxHeartbeats 1000000
namespace Q
open PySem PySem.Spec PyProof.Rows L2
theorem Rp.late {K : PySem.W.Frag} {T : Tb} {ω ω' : Wd} {d : D} {v : V} (h : Rp K T ω d v) (e : Later ω ω') : Rp K T ω' d v := Rp.mono e.fix e.al e.len e.ao e.lenO d v h
theorem Rps.late {K : PySem.W.Frag} {T : Tb} {ω ω' : Wd} {d : List D} {v : List V} (h : Rps K T ω d v) (e : Later ω ω') : Rps K T ω' d v := Rps.mono e.fix e.al e.len e.ao e.lenO d v h
def Gives (K : PySem.W.Frag) (T : Tx) (ω : Wd) (ds : List D) (J : It) : Prop :=
  ∃ G Y, Walk J ds.length G Y ∧ (∀ H, Same ω.F H → G H) ∧ ∀ (i : Nat) d ω1 S1 Hx x Hy, ds[i]? = some d → Later ω ω1 → Rl K T.toTb ω1 S1 Hx → Y i Hx x Hy → ∃ ω2, Ext ω1 S1 Hx ω2 S1 Hy ∧ Rl K T.toTb ω2 S1 Hy ∧ Rp K T.toTb ω2 d x
def tIr (K : PySem.W.Frag) (T : Tx) (W : WX) (src : Src) : TI := fun σ H R => ∃ s S ω, Rl K T.toTb ω S H ∧ Rs K T.toTb ω s σ ∧ EPg K T (Gives K T) W σ ω S H (src s S) R
def GI (X : Cx) (T : Tx) (W : WX) (tg iter : Expr) (src : Src) : Prop := PI X tg iter (tIr X.K T W src)
theorem PI.imp {X : Cx} {tg e : Expr} {t t' : TI} (h : PI X tg e t) (i : ∀ σ H R, t' σ H R → t σ H R) : PI X tg e t' := ⟨fun pins s σ H R I q => h.run pins s σ H R I (i _ _ _ q)⟩
theorem PI.or {X : Cx} {tg e : Expr} {t t' : TI} (h : PI X tg e t) (h' : PI X tg e t') : PI X tg e (fun σ H R => t σ H R ∨ t' σ H R) := ⟨fun pins s σ H R I q => q.elim (h.run pins s σ H R I) (h'.run pins s σ H R I)⟩
section
variable {K : PySem.W.Frag} {T : Tx} {ω : Wd}
theorem gives_at {J : It} {ds : List D} {vs : List V} {G : Hp → Prop} (r : Rps K T.toTb ω ds vs) (w : Walk J vs.length G (YAt vs)) (g : ∀ H, Same ω.F H → G H) : Gives K T ω ds J := by
  refine ⟨G, YAt vs, by rw [r.length]; exact w, g, fun i d ω1 S1 Hx x Hy hd lt rl y => ?_⟩
  obtain ⟨rfl, hx⟩ := y
  obtain ⟨v, hv, rv⟩ := r.get hd
  rw [hx] at hv
  cases hv
  exact ⟨ω1, Ext.refl, rl, rv.late lt⟩
theorem gives_list {ds : List D} {vs : List V} {a : Addr} (h : ω.F a = some (.lst vs)) (r : Rps K T.toTb ω ds vs) : Gives K T ω ds (Itl K a) := gives_at r walk_list fun _ s => SqL.of (s _ _ h)
theorem gives_tup {ds : List D} {vs : List V} {a : Addr} (h : SqT K ω.F a vs) (r : Rps K T.toTb ω ds vs) : Gives K T ω ds (Itt K a) := gives_at r walk_tup fun _ s => Same.seqT s h
theorem gives_str {z : Str} : Gives K T ω (z.cps.toList.map fun c => .str ⟨#[c]⟩) (Its z) := by
  refine ⟨_, _, by rw [List.length_map, Array.length_toList]; exact walk_str, fun _ _ => trivial, fun i d ω1 S1 Hx x Hy hd lt rl y => ?_⟩
  obtain ⟨rfl, c, hc, rfl⟩ := y
  rw [List.getElem?_map] at hd
  have e : z.cps.toList[i]? = some c := by simpa using hc
  rw [e] at hd
  cases hd
  exact ⟨ω1, Ext.refl, rl, Rp.mstr _⟩
theorem gives_rng {lo : Int} {n : Nat} : Gives K T ω (rngL lo n) (Itr lo n) := by
  have hl : (rngL lo n).length = n := by simp [rngL]
  refine ⟨_, _, by rw [hl]; exact walk_range, fun _ _ => trivial, fun i d ω1 S1 Hx x Hy hd lt rl y => ?_⟩
  obtain ⟨rfl, rfl⟩ := y
  have hi : i < n := by
    have := (List.getElem?_eq_some_iff.mp hd).1
    rw [hl] at this; exact this
  unfold rngL at hd
  rw [List.getElem?_map, List.getElem?_range hi] at hd
  cases hd
  exact ⟨ω1, Ext.refl, rl, Rp.mint _⟩
theorem gives_pair {J : It} {ds es fs : List D} {n : Nat} {xs ys : Nat → Option V} {G : Hp → Prop} (hf : fs = List.zipWith (fun d e => .tup [d, e]) ds es) (hn : fs.length = n) (w : Walk J n G (YPair xs ys)) (g : ∀ H, Same ω.F H → G H)
    (hx : ∀ (i : Nat) d v, ds[i]? = some d → xs i = some v → Rp K T.toTb ω d v) (hy : ∀ (i : Nat) d v, es[i]? = some d → ys i = some v → Rp K T.toTb ω d v) : Gives K T ω fs J := by
  refine ⟨G, _, by rw [hn]; exact w, g, fun i d ω1 S1 Hx x Hy hd lt rl y => ?_⟩
  obtain ⟨A, u, v, rfl, hA, rfl, e1, e2⟩ := y
  subst hf
  rw [List.getElem?_zipWith] at hd
  cases h1 : ds[i]? with
  | none => rw [h1] at hd; simp at hd
  | some d1 => cases h2 : es[i]? with
    | none => rw [h1, h2] at hd; simp at hd
    | some d2 =>
      rw [h1, h2] at hd
      simp at hd
      subst hd
      obtain ⟨ω2, ex, rl2, hF⟩ := Rl.laid rl hA (.tup [u, v])
      exact ⟨ω2, ex, rl2, Rp.mtup (SqT.of hF) (Rps.cons (((hx i d1 u h1 e1).late lt).ext ex) (Rps.cons (((hy i d2 v h2 e2).late lt).ext ex) Rps.nil))⟩
theorem walk_zipT {K : PySem.W.Frag} {a b : Addr} {xs ys : List V} {n : Nat} (hn : n = min xs.length ys.length) : Walk (RZ.ItzT K a b) n (fun H => SqT K H a xs ∧ SqT K H b ys) (YPair (fun i => xs[i]?) (fun i => ys[i]?)) := by
  subst hn
  refine ⟨fun i _ hi q => ?_, fun _ q => ⟨xs, ys, q.1, q.2, by omega⟩, fun i H v H' _ q y => ?_⟩
  · have h1 : i < xs.length := by omega
    have h2 : i < ys.length := by omega
    exact ⟨xs, ys, xs[i], ys[i], q.1, q.2, by simp [h1], by simp [h2]⟩
  · obtain ⟨A, x, z, h1, h2, h3, h4, h5⟩ := y
    exact ⟨A, x, z, h1, h2, h3, h4 xs q.1, h5 ys q.2⟩
end
section
variable {X : Cx} {T : Tx} {W : WX} {a b c e tg : Expr} {es : List Expr} {ta tb tc : Q.TE} {ts : List Q.TE} {pos : Pos}
theorem gi_seq (ha : GE X T W a ta) : GI X T W tg a (sSeq ta) := PI.imp (PI.or (pi_list ha) (PI.or (pi_tup ha) (pi_str ha))) fun σ H R ⟨s, S, ω, rl, rs, q⟩ => by
  cases e0 : ta s S with
  | ok d S1 =>
    unfold sSeq at q
    rw [e0] at q
    cases d with
    | lst ds =>
      refine .inl ⟨s, S, ω, rl, rs, ?_⟩
      rw [e0]
      intro ω' H' v ex rl' r
      unfold Rp at r
      obtain ⟨p, vs, rfl, h1, r1⟩ := r
      exact ⟨p, rfl, ⟨vs, SqL.of (rl'.sub _ _ h1)⟩, q ω' H' _ ex rl' (gives_list h1 r1)⟩
    | tup ds =>
      refine .inr (.inl ⟨s, S, ω, rl, rs, ?_⟩)
      rw [e0]
      intro ω' H' v ex rl' r
      unfold Rp at r
      obtain ⟨p, vs, rfl, h1, r1⟩ := r
      exact ⟨p, rfl, ⟨vs, Same.seqT rl'.sub h1⟩, q ω' H' _ ex rl' (gives_tup h1 r1)⟩
    | str z =>
      refine .inr (.inr ⟨s, S, ω, rl, rs, ?_⟩)
      rw [e0]
      intro ω' H' v ex rl' r
      exact ⟨z, r.str, q ω' H' _ ex rl' gives_str⟩
    | _ => exact q.elim
  | ex x S1 =>
    unfold sSeq at q
    rw [e0] at q
    refine .inl ⟨s, S, ω, rl, rs, ?_⟩
    rw [e0]
    exact q
  | err =>
    unfold sSeq at q
    rw [e0] at q
    exact q.elim
def OkI (K : PySem.W.Frag) (T : Tx) (p : List V → Hp → (It → Hp → Prop) → Prop) (f : List D → Option (List D)) : Prop := ∀ ω S H xs us R ds, Rl K T.toTb ω S H → Rps K T.toTb ω xs us → f xs = some ds → (∀ J, Gives K T ω ds J → R J H) → p us H R
theorem gi_N {p : List V → Hp → (It → Hp → Prop) → Prop} {f : List D → Option (List D)} (h : PI X tg e (fun σ H R => tAr X.K T W (eArgs ts) σ H fun vs H1 => p vs H1 R)) (hf : OkI X.K T p f) : GI X T W tg e (sN f ts) := PI.imp h fun σ H R ⟨s, S, ω, rl, rs, q⟩ => by
  refine ⟨s, S, ω, rl, rs, (EPg.bind q).mono ?_⟩
  rintro vs H1 ⟨ω1, S1, ds, e1, rl1, r1, q1⟩
  split at q1
  · exact hf _ _ _ _ _ _ _ rl1 r1 ‹_› fun J g => q1 ω1 H1 J Ext.refl rl1 g
  · exact q1.elim
theorem gi_rng1 {p : Pos} (hg : Gl X "range") (hm : X.mg "range" = none) (ha : GA X T W [a] ts) (hs : starEach [a] X.env = [(false, eval a X.env)] := by rfl) : GI X T W tg (.Call (.Name "range" p) [a] [] pos) (sN iRng1 ts) :=
  gi_N (p := fun vs H1 R => ∃ j : Int, vs = [.int j] ∧ -(2 ^ 62) ≤ j ∧ j < 2 ^ 62 ∧ R (Itr 0 j.toNat) H1) (pi_range1 hg hm ha hs) (by
    intro ω S H xs us R ds rl r e k
    unfold iRng1 at e
    split at e
    · split at e
      · rename_i j h
        cases e
        simp only [rngOk, Bool.and_eq_true, decide_eq_true_eq] at h
        obtain ⟨v, rfl, r1⟩ := r.one
        exact ⟨j, by rw [r1.int], h.1, h.2, k _ gives_rng⟩
      · cases e
    · cases e)
theorem gi_rng2 {p : Pos} (hg : Gl X "range") (hm : X.mg "range" = none) (ha : GA X T W [a, b] ts) (hs : starEach [a, b] X.env = [(false, eval a X.env), (false, eval b X.env)] := by rfl) (hs2 : starEach [b] X.env = [(false, eval b X.env)] := by rfl) :
    GI X T W tg (.Call (.Name "range" p) [a, b] [] pos) (sN iRng2 ts) :=
  gi_N (p := fun vs H1 R => ∃ i j : Int, vs = [.int i, .int j] ∧ (-(2 ^ 62) ≤ i ∧ i < 2 ^ 62 ∧ -(2 ^ 62) ≤ j ∧ j < 2 ^ 62) ∧ R (Itr i (j - i).toNat) H1) (pi_range2 hg hm ha hs hs2) (by
    intro ω S H xs us R ds rl r e k
    unfold iRng2 at e
    split at e
    · split at e
      · rename_i i j h
        cases e
        simp only [rngOk, Bool.and_eq_true, decide_eq_true_eq] at h
        obtain ⟨v, w, rfl, r1, r2⟩ := r.two
        exact ⟨i, j, by rw [r1.int, r2.int], ⟨h.1.1, h.1.2, h.2.1, h.2.2⟩, k _ gives_rng⟩
      · cases e
    · cases e)
theorem gi_enumL {p tpos : Pos} {elts : List Expr} {kk : Nat} (hg : Gl X "enumerate") (hm : X.mg "enumerate" = none) (ha : GA X T W [a] ts) (hs : starEach [a] X.env = [(false, eval a X.env)] := by rfl) :
    GI X T W (.Tuple elts kk tpos) (.Call (.Name "enumerate" p) [a] [] pos) (sN iEnumL ts) :=
  gi_N (p := fun vs H1 R => ∃ a xs, vs = [.ref a] ∧ SqL X.K H1 a xs ∧ R (Ite X.K a) H1) (pi_enum hg hm ha hs) (by
    intro ω S H xs us R ds rl r e k
    unfold Q.iEnumL at e
    split at e
    · rename_i xs
      cases e
      obtain ⟨v, rfl, r1⟩ := r.one
      unfold Rp at r1
      obtain ⟨p, vs, rfl, h1, r2⟩ := r1
      refine ⟨p, vs, rfl, SqL.of (rl.sub _ _ h1), k _ (gives_pair (ds := (List.range xs.length).map fun (i : Nat) => D.int i) (es := xs) (n := vs.length) ?_ ?_ walk_enum (fun _ s => SqL.of (s _ _ h1)) ?_ ?_)⟩
      · rw [List.zipWith_map_left]
      · simp [r2.length]
      · intro i d v hd hv
        cases hv
        have hi : i < xs.length := by
          have := (List.getElem?_eq_some_iff.mp hd).1
          simpa using this
        rw [List.getElem?_map, List.getElem?_range hi] at hd
        cases hd
        exact Rp.mint _
      · intro i d v hd hv
        obtain ⟨w, hw, rw'⟩ := r2.get hd
        rw [hw] at hv
        cases hv
        exact rw'
    · cases e)
theorem gi_zipA {p tpos : Pos} {elts : List Expr} {kk : Nat} (hg : Gl X "zip") (hm : X.mg "zip" = none) (ha : GA X T W [a, b] ts)
    (hs : starEach [a, b] X.env = (false, eval a X.env) :: starEach [b] X.env := by rfl) (hpl : (backTo pos (starEach [b] X.env)).any (·.1) = false := by rfl) :
    GI X T W (.Tuple elts kk tpos) (.Call (.Name "zip" p) [a, b] [] pos) (sN iZipA ts) :=
  gi_N (p := fun vs H1 R => ∃ a b xs ys, vs = [.ref a, .ref b] ∧ ((SqL X.K H1 a xs ∧ SqL X.K H1 b ys ∧ R (Itz X.K a b) H1) ∨ (SqT X.K H1 a xs ∧ SqT X.K H1 b ys ∧ R (RZ.ItzT X.K a b) H1))) (RZ.pi_zipA hg hm ha hs hpl) (by
    intro ω S H xs us R ds rl r e k
    have at_ : ∀ {es : List D} {ws : List V}, Rps X.K T.toTb ω es ws → ∀ (i : Nat) d v, es[i]? = some d → ws[i]? = some v → Rp X.K T.toTb ω d v := fun {es ws} r2 i d v hd hv => by
      obtain ⟨w, hw, rw'⟩ := r2.get hd
      rw [hw] at hv
      cases hv
      exact rw'
    unfold Q.iZipA at e
    split at e
    · rename_i xs ys
      cases e
      obtain ⟨v, w, rfl, r1, r2⟩ := r.two
      unfold Rp at r1 r2
      obtain ⟨p, vs, rfl, h1, r1⟩ := r1
      obtain ⟨q, ws, rfl, h2, r2⟩ := r2
      exact ⟨p, q, vs, ws, rfl, .inl ⟨SqL.of (rl.sub _ _ h1), SqL.of (rl.sub _ _ h2), k _ (gives_pair (ds := xs) (es := ys) (n := min vs.length ws.length) rfl (by simp [r1.length, r2.length]) (walk_zip rfl) (fun _ s => ⟨SqL.of (s _ _ h1), SqL.of (s _ _ h2)⟩) (at_ r1) (at_ r2))⟩⟩
    · rename_i xs ys
      cases e
      obtain ⟨v, w, rfl, r1, r2⟩ := r.two
      unfold Rp at r1 r2
      obtain ⟨p, vs, rfl, h1, r1⟩ := r1
      obtain ⟨q, ws, rfl, h2, r2⟩ := r2
      exact ⟨p, q, vs, ws, rfl, .inr ⟨Same.seqT rl.sub h1, Same.seqT rl.sub h2, k _ (gives_pair (ds := xs) (es := ys) (n := min vs.length ws.length) rfl (by simp [r1.length, r2.length]) (walk_zipT rfl) (fun _ s => ⟨Same.seqT s h1, Same.seqT s h2⟩) (at_ r1) (at_ r2))⟩⟩
    · cases e)
theorem wipe_set_in {σ : L2.St} {i : Nat} {x : Option V} : ∀ {vs : List Nat}, i ∈ vs → wipe (σ.set i x) vs = wipe σ vs
  | [], h => by simp at h
  | v :: vs, h => by
    unfold wipe
    by_cases hv : i = v
    · subst hv
      by_cases hi : i ∈ vs
      · rw [wipe_set_in hi]
      · have out : ∀ (ws : List Nat), i ∉ ws → wipe (σ.set i x) ws = (wipe σ ws).set i x := by
          intro ws
          induction ws with
          | nil => intro _; rfl
          | cons w ws ih =>
            intro hw
            unfold wipe
            rw [ih fun z => hw (List.mem_cons_of_mem _ z), List.set_comm _ _ (fun z => hw (by rw [z]; exact List.mem_cons_self))]
        rw [out vs hi, List.set_set]
    · rcases List.mem_cons.mp h with z | z
      · exact absurd z hv
      · rw [wipe_set_in z]
def tGr (K : PySem.W.Frag) (T : Tx) (p : Pat) : TG := fun v σ H Qv => ∃ s S ω d s1, Rl K T.toTb ω S H ∧ Rs K T.toTb ω s σ ∧ Rp K T.toTb ω d v ∧ p.put d s = some s1 ∧
  ∀ σ1, Rs K T.toTb ω s1 σ1 → (∀ vs, (∀ i ∈ p.slots, i ∈ vs) → wipe σ1 vs = wipe σ vs) → Qv σ1 H
def tGrs (K : PySem.W.Frag) (T : Tx) (ps : List Pat) : TGs := fun us σ H Qv => ∃ s S ω ds s1, Rl K T.toTb ω S H ∧ Rs K T.toTb ω s σ ∧ Rps K T.toTb ω ds us ∧ Pat.puts ps ds s = some s1 ∧
  ∀ σ1, Rs K T.toTb ω s1 σ1 → (∀ vs, (∀ i ∈ Pat.slotss ps, i ∈ vs) → wipe σ1 vs = wipe σ vs) → Qv σ1 H
def GP (X : Cx) (T : Tx) (tg : Expr) (p : Pat) : Prop := PG X tg (tGr X.K T p)
def GPs (X : Cx) (T : Tx) (ts : List Expr) (ps : List Pat) : Prop := PGs X ts (tGrs X.K T ps)
theorem PG.imp {X : Cx} {e : Expr} {t t' : TG} (h : PG X e t) (i : ∀ v σ H Qv, t' v σ H Qv → t v σ H Qv) : PG X e t' := ⟨fun pins s σ H v u Qv I r q => h.run pins s σ H v u Qv I r (i _ _ _ _ q)⟩
theorem PGs.imp {X : Cx} {e : List Expr} {t t' : TGs} (h : PGs X e t) (i : ∀ v σ H Qv, t' v σ H Qv → t v σ H Qv) : PGs X e t' := ⟨fun pins s σ H v u Qv I r q => h.run pins s σ H v u Qv I r (i _ _ _ _ q)⟩
theorem gp_name {i : Nat} (h : PG X tg (gName i)) : GP X T tg (.nm i) := PG.imp h fun v σ H Qv ⟨s, S, ω, d, s1, rl, rs, r, hp, k⟩ => by
  unfold Pat.put at hp
  cases hp
  exact k _ (rs.set r i) fun vs hv => wipe_set_in (hv i (by unfold Pat.slots; exact List.mem_singleton.mpr rfl))
theorem gps_nil : GPs X T [] [] := PGs.imp pgs_nil fun us σ H Qv ⟨s, S, ω, ds, s1, rl, rs, r, hp, k⟩ => by
  cases ds with
  | nil =>
    unfold Pat.puts at hp
    cases hp
    unfold Rps at r
    exact ⟨r, k σ rs fun _ _ => rfl⟩
  | cons d ds => simp [Pat.puts] at hp
theorem gps_cons {p : Pat} {ps : List Pat} (h1 : GP X T e p) (h2 : GPs X T es ps) (hs : (assignEach (e :: es) X.env).map (·.2) = assign e X.env :: (assignEach es X.env).map (·.2) := by rfl) : GPs X T (e :: es) (p :: ps) := PGs.imp (pgs_cons h1 h2 hs) fun us σ H Qv ⟨s, S, ω, ds, s1, rl, rs, r, hp, k⟩ => by
  cases ds with
  | nil => simp [Pat.puts] at hp
  | cons d ds =>
    unfold Rps at r
    obtain ⟨v, ws, rfl, r1, r2⟩ := r
    unfold Pat.puts at hp
    cases e1 : p.put d s with
    | none => rw [e1] at hp; cases hp
    | some s2 =>
      rw [e1] at hp
      refine ⟨v, ws, rfl, s, S, ω, d, s2, rl, rs, r1, e1, fun σ1 rs1 w1 => ⟨s2, S, ω, ds, s1, rl, rs1, r2, hp, fun σ2 rs2 w2 => ?_⟩⟩
      refine k σ2 rs2 fun vs hv => ?_
      unfold Pat.slotss at hv
      rw [w2 vs fun i hi => hv i (List.mem_append_right _ hi), w1 vs fun i hi => hv i (List.mem_append_left _ hi)]
theorem puts_len : ∀ {ps : List Pat} {ds : List D} {s s1 : Sl}, Pat.puts ps ds s = some s1 → ds.length = ps.length
  | [], [], _, _, _ => rfl
  | [], _ :: _, _, _, h => by simp [Pat.puts] at h
  | _ :: _, [], _, _, h => by simp [Pat.puts] at h
  | p :: ps, d :: ds, s, s1, h => by
    unfold Pat.puts at h
    split at h
    · simp [puts_len h]
    · cases h
theorem gp_tup {ps : List Pat} {k : Nat} (hc : X.calm = true) (h : GPs X T es ps) (hn : (assignEach es X.env).length = ps.length := by rfl) (hst : (assignEach es X.env).findIdx? (·.1) = none := by rfl) : GP X T (.Tuple es k pos) (.tp ps) := PG.imp (pg_tup hc h hn hst) fun v σ H Qv ⟨s, S, ω, d, s1, rl, rs, r, hp, k⟩ => by
  cases d <;> try (simp [Pat.put] at hp; done)
  unfold Pat.put at hp
  obtain ⟨a, vs, rfl, h1, r1⟩ := Rp.tup rl r
  refine ⟨a, vs, rfl, h1, by rw [← r1.length]; exact puts_len hp, s, S, ω, _, s1, rl, rs, r1, hp, fun σ1 rs1 w => k σ1 rs1 fun vs hv => w vs fun i hi => hv i (by unfold Pat.slots; exact hi)⟩
def SPg (K : PySem.W.Frag) (T : Tx) (W : WX) (Dn : Ends) (ω : Wd) (S : Store) (H : Hp) (r : RS) : Prop := match r with
  | some (.nx s', S') => ∀ ω' σ' H', Ext ω S H ω' S' H' → Rl K T.toTb ω' S' H' → Rs K T.toTb ω' s' σ' → Dn.nx σ' H'
  | some (.bk s', S') => ∀ ω' σ' H', Ext ω S H ω' S' H' → Rl K T.toTb ω' S' H' → Rs K T.toTb ω' s' σ' → Dn.bk σ' H'
  | some (.ct s', S') => ∀ ω' σ' H', Ext ω S H ω' S' H' → Rl K T.toTb ω' S' H' → Rs K T.toTb ω' s' σ' → Dn.ct σ' H'
  | some (.ret d, S') => ∀ ω' H' v, Ext ω S H ω' S' H' → Rl K T.toTb ω' S' H' → Rp K T.toTb ω' d v → Dn.rt v H'
  | some (.ex e s', S') => ∀ ω' σ' H' cls dd, Ext ω S H ω' S' H' → Rl K T.toTb ω' S' H' → Rs K T.toTb ω' s' σ' → ExR K T ω' e cls dd → W cls dd σ' H'
  | none => False
theorem SPg.shift {K : PySem.W.Frag} {Dn : Ends} {ω ω1 : Wd} {S S1 : Store} {H H1 : Hp} {r : RS} (e : Ext ω S H ω1 S1 H1) (h : SPg K T W Dn ω S H r) : SPg K T W Dn ω1 S1 H1 r := by
  cases r with
  | none => exact h
  | some p =>
    obtain ⟨f, S'⟩ := p
    cases f with
    | nx s => exact fun ω' σ' H' x => h ω' σ' H' (e.trans x)
    | bk s => exact fun ω' σ' H' x => h ω' σ' H' (e.trans x)
    | ct s => exact fun ω' σ' H' x => h ω' σ' H' (e.trans x)
    | ret d => exact fun ω' H' v x => h ω' H' v (e.trans x)
    | ex q s => exact fun ω' σ' H' c d x => h ω' σ' H' c d (e.trans x)
def tSr (K : PySem.W.Frag) (T : Tx) (W : WX) (t : TSt) : L2.TS := fun Dn σ H => ∃ s S ω, Rl K T.toTb ω S H ∧ Rs K T.toTb ω s σ ∧ SPg K T W Dn ω S H (t s S)
def GS (X : Cx) (T : Tx) (W : WX) (st : Stmt) (t : TSt) : Prop := PS X st (tSr X.K T W t)
def GSs (X : Cx) (T : Tx) (W : WX) (st : List Stmt) (t : TSt) : Prop := PSs X st (tSr X.K T W t)
theorem PS.imp {X : Cx} {e : Stmt} {t t' : L2.TS} (h : PS X e t) (i : ∀ D σ H, t' D σ H → t D σ H) : PS X e t' := ⟨fun pins s σ H D I q => h.run pins s σ H D I (i _ _ _ q)⟩
theorem PSs.imp {X : Cx} {e : List Stmt} {t t' : L2.TS} (h : PSs X e t) (i : ∀ D σ H, t' D σ H → t D σ H) : PSs X e t' := ⟨fun pins s σ H D I q => h.run pins s σ H D I (i _ _ _ q)⟩
theorem onE_ok {K : PySem.W.Frag} {Dn : Ends} {σ : L2.St} {ω : Wd} {S : Store} {H : Hp} {r : Res D} {s : Sl} {k : D → Store → RS} (rs : Rs K T.toTb ω s σ) (h : SPg K T W Dn ω S H (onE r s k)) :
    EPg K T (Rp K T.toTb) W σ ω S H r (fun v H1 => ∃ ω1 S1 d, Ext ω S H ω1 S1 H1 ∧ Rl K T.toTb ω1 S1 H1 ∧ Rp K T.toTb ω1 d v ∧ SPg K T W Dn ω1 S1 H1 (k d S1)) := by
  cases r with
  | ok d S' => exact fun ω' H' v e rl r => ⟨ω', S', d, e, rl, r, SPg.shift e h⟩
  | ex q S' => exact fun ω' H' c dd e rl x => h ω' σ H' c dd e rl (rs.ext e) x
  | err => exact h
variable {st : Stmt} {rest body : List Stmt} {t u : TSt}
theorem gs_pass : GS X T W (.Pass pos) tPass := PS.imp ps_pass fun D σ H ⟨s, S, ω, rl, rs, q⟩ => q ω σ H Ext.refl rl rs
theorem gs_break : GS X T W (.Break pos) tBrk := PS.imp ps_break fun D σ H ⟨s, S, ω, rl, rs, q⟩ => q ω σ H Ext.refl rl rs
theorem gs_cont : GS X T W (.Continue pos) tCnt := PS.imp ps_continue fun D σ H ⟨s, S, ω, rl, rs, q⟩ => q ω σ H Ext.refl rl rs
theorem gss_nil : GSs X T W [] tPass := PSs.imp pss_nil fun D σ H ⟨s, S, ω, rl, rs, q⟩ => q ω σ H Ext.refl rl rs
theorem gss_one (h : GS X T W st t) : GSs X T W [st] t := pss_one h
theorem gss_cons (h1 : GS X T W st t) (h2 : GSs X T W rest u) : GSs X T W (st :: rest) (Q.tSeq t u) := PSs.imp (pss_cons h1 h2) fun D σ H ⟨s, S, ω, rl, rs, q⟩ => by
  refine ⟨s, S, ω, rl, rs, ?_⟩
  unfold Q.tSeq at q
  cases e : t s S with
  | none => rw [e] at q; exact q
  | some p =>
    obtain ⟨f, S'⟩ := p
    rw [e] at q
    cases f with
    | nx s' => exact fun ω' σ' H' ex rl' rs' => ⟨s', S', ω', rl', rs', SPg.shift ex q⟩
    | bk s' => exact q
    | ct s' => exact q
    | ret d => exact q
    | ex x s' => exact q
theorem gs_expr (he : GE X T W a ta) (hs : swapsWith a none pos.line X.env = pure false := by rfl) : GS X T W (.Expr a pos) (tExpr ta) := PS.imp (ps_expr he hs) fun D σ H ⟨s, S, ω, rl, rs, q⟩ => by
  refine ⟨s, S, ω, rl, rs, (onE_ok rs q).mono ?_⟩
  rintro v H1 ⟨ω1, S1, d, e1, rl1, r1, q1⟩
  exact q1 ω1 σ H1 Ext.refl rl1 (rs.ext e1)
theorem gs_ret (he : GE X T W a ta) : GS X T W (.Return (some a) pos) (Q.tRet ta) := PS.imp (ps_ret he) fun D σ H ⟨s, S, ω, rl, rs, q⟩ => by
  refine ⟨s, S, ω, rl, rs, (onE_ok rs q).mono ?_⟩
  rintro v H1 ⟨ω1, S1, d, e1, rl1, r1, q1⟩
  exact q1 ω1 H1 v Ext.refl rl1 r1
theorem gs_set' {i : Nat} {te : L2.TE} (h : PS X st (tAsg te (gName i))) (hte : ∀ σ H Qv, tEr X.K T W ta σ H Qv → te σ H Qv) : GS X T W st (tSet (.nm i) ta) := PS.imp h fun D σ H ⟨s, S, ω, rl, rs, q⟩ => by
  refine hte _ _ _ ⟨s, S, ω, rl, rs, (onE_ok rs q).mono ?_⟩
  rintro v H1 ⟨ω1, S1, d, e1, rl1, r1, q1⟩
  unfold Pat.put at q1
  exact q1 ω1 _ H1 Ext.refl rl1 ((rs.ext e1).set r1 i)
theorem gs_set {i : Nat} (h : PS X st (tAsg (tEr X.K T W ta) (gName i))) : GS X T W st (tSet (.nm i) ta) := gs_set' h fun _ _ _ q => q
theorem gs_asg {p : Pat} (h : PS X st (tAsg (tEr X.K T W ta) (tGr X.K T p))) : GS X T W st (tSet p ta) := PS.imp h fun D σ H ⟨s, S, ω, rl, rs, q⟩ => by
  refine ⟨s, S, ω, rl, rs, (onE_ok rs q).mono ?_⟩
  rintro v H1 ⟨ω1, S1, d, e1, rl1, r1, q1⟩
  split at q1
  · rename_i s1 hp
    exact ⟨s, S1, ω1, d, s1, rl1, rs.ext e1, r1, hp, fun σ1 rs1 _ => q1 ω1 σ1 H1 Ext.refl rl1 rs1⟩
  · exact q1.elim
theorem tup_ok {D : Ends} {σ : L2.St} {H : Hp} {s : Sl} {S : Store} {ω : Wd} {ps : List Pat} (rs : Rs X.K T.toTb ω s σ) (q : SPg X.K T W D ω S H (tSet (.tp ps) (eTup ts) s S)) :
    EPg X.K T (Rps X.K T.toTb) W σ ω S H (eArgs ts s S) (fun vs H1 => ∃ ω1 S1 ds s1, Ext ω S H ω1 S1 H1 ∧ Rl X.K T.toTb ω1 S1 H1 ∧ Rps X.K T.toTb ω1 ds vs ∧ Pat.puts ps ds s = some s1 ∧ ∀ σ1, Rs X.K T.toTb ω1 s1 σ1 → D.nx σ1 H1) := by
  unfold tSet eTup at q
  cases e0 : eArgs ts s S with
  | ok ds S1 =>
    rw [e0] at q
    simp only [Res.bind, onE, Pat.put] at q
    intro ω1 H1 vs e rl1 r
    split at q
    · rename_i s1 hp
      exact ⟨ω1, S1, ds, s1, e, rl1, r, hp, fun σ1 rs1 => q ω1 σ1 H1 e rl1 rs1⟩
    · exact q.elim
  | ex x S1 =>
    rw [e0] at q
    simp only [Res.bind, onE] at q
    exact fun ω' H' c dd e rl' x => q ω' σ H' c dd e rl' (rs.ext e) x
  | err =>
    rw [e0] at q
    exact q
theorem gs_swp2 {i j : Nat} (h : PS X st (L2.tPar i j (tAr X.K T W (eArgs [ta, tb])))) : GS X T W st (tSet (.tp [.nm i, .nm j]) (eTup [ta, tb])) := PS.imp h fun D σ H ⟨s, S, ω, rl, rs, q⟩ => by
  refine ⟨s, S, ω, rl, rs, (tup_ok rs q).mono ?_⟩
  rintro vs H1 ⟨ω1, S1, ds, s1, e1, rl1, r, hp, k⟩
  have hl := puts_len hp
  match ds, hl with
  | [d1, d2], _ =>
    obtain ⟨v, w, rfl, r1, r2⟩ := r.two
    simp only [Pat.puts, Pat.put, Option.some.injEq] at hp
    subst hp
    exact ⟨v, w, rfl, k _ (((rs.ext e1).set r1 i).set r2 j)⟩
theorem Rps.three {K : PySem.W.Frag} {T : Tb} {ω : Wd} {d e f : D} {vs : List V} (h : Rps K T ω [d, e, f] vs) : ∃ u v w, vs = [u, v, w] ∧ Rp K T ω d u ∧ Rp K T ω e v ∧ Rp K T ω f w := by
  unfold Rps at h
  obtain ⟨v, ws, rfl, r, h2⟩ := h
  obtain ⟨w, z, rfl, r2, r3⟩ := Rps.two h2
  exact ⟨v, w, z, rfl, r, r2, r3⟩
theorem gs_swp3 {i j l : Nat} (h : PS X st (L2.tPar3 i j l (tAr X.K T W (eArgs [ta, tb, tc])))) : GS X T W st (tSet (.tp [.nm i, .nm j, .nm l]) (eTup [ta, tb, tc])) := PS.imp h fun D σ H ⟨s, S, ω, rl, rs, q⟩ => by
  refine ⟨s, S, ω, rl, rs, (tup_ok rs q).mono ?_⟩
  rintro vs H1 ⟨ω1, S1, ds, s1, e1, rl1, r, hp, k⟩
  have hl := puts_len hp
  match ds, hl with
  | [d1, d2, d3], _ =>
    obtain ⟨u, v, w, rfl, r1, r2, r3⟩ := r.three
    simp only [Pat.puts, Pat.put, Option.some.injEq] at hp
    subst hp
    exact ⟨u, v, w, rfl, k _ ((((rs.ext e1).set r1 i).set r2 j).set r3 l)⟩
theorem gs_if (hc : GT X T W c tc) (ha : GSs X T W body t) (hb : GSs X T W rest u) : GS X T W (.If c body rest pos) (Q.tIf tc t u) := PS.imp (ps_if hc ha hb) fun D σ H ⟨s, S, ω, rl, rs, q⟩ => by
  refine ⟨s, S, ω, rl, rs, ?_⟩
  unfold Q.tIf at q
  cases e0 : tc s S with
  | ok d S' =>
    rw [e0] at q
    have q' : SPg X.K T W D ω S H (asBS d S' fun c S2 => if c then t s S2 else u s S2) := q
    cases d <;> try exact q'.elim
    rename_i k
    intro ω' H' c e rl r
    cases r
    have q2 := SPg.shift e q'
    cases k with
    | true => exact iteT ⟨s, S', ω', rl, rs.ext e, q2⟩
    | false => exact iteF ⟨s, S', ω', rl, rs.ext e, q2⟩
  | ex x S' =>
    rw [e0] at q
    exact fun ω' H' c dd e rl' x => q ω' σ H' c dd e rl' (rs.ext e) x
  | err => rw [e0] at q; exact q
theorem gs_setIx {to ti tv : Q.TE} (h : PS X st (tAsg (tEr X.K T W tv) (gSub (tEr X.K T W to) (tEr X.K T W ti) rSetL))) : GS X T W st (tSetIx to ti tv) := PS.imp h fun D σ H ⟨s, S, ω, rl, rs, q⟩ => by
  refine ⟨s, S, ω, rl, rs, (onE_ok rs q).mono ?_⟩
  rintro v H1 ⟨ω1, S1, d, e1, rl1, r1, q1⟩
  refine ⟨s, S1, ω1, rl1, rs.ext e1, (onE_ok (rs.ext e1) q1).mono ?_⟩
  rintro w H2 ⟨ω2, S2, d2, e2, rl2, r2, q2⟩
  refine ⟨s, S2, ω2, rl2, (rs.ext e1).ext e2, (onE_ok ((rs.ext e1).ext e2) q2).mono ?_⟩
  rintro z H3 ⟨ω3, S3, d3, e3, rl3, r3, q3⟩
  split at q3
  · rename_i S4 hset
    unfold setL at hset
    split at hset
    · rename_i k j
      split at hset
      · rename_i xs g
        split at hset
        · rename_i n hn
          split at hset
          · rename_i hf
            cases hset
            obtain ⟨p, vs, rfl, rfl, h1, r4⟩ := Rp.ptr rl3 (r2.ext e3) g
            have hfs := (rl3.obj k xs g).2.1
            have z := rl3.put (es := xs.set n d) g (by
              refine flats_all.mpr fun x hx => ?_
              rcases List.mem_or_eq_of_mem_set hx with h | h
              · exact flats_all.mp hfs x h
              · rw [h]; exact hf) (r4.set n ((r1.ext e2).ext e3))
            exact ⟨_, vs, j, n, rfl, r3.int, h1, by rw [← r4.length]; exact hn, q3 ω3 σ _ z.1 z.2 ((((rs.ext e1).ext e2).ext e3).ext z.1)⟩
          · cases hset
        · cases hset
      · cases hset
    · cases hset
  · exact q3.elim
theorem gs_frz {i : Nat} (h : GS X T W st t) : GS X T W st (tFrz i t) := PS.imp h fun D σ H ⟨s, S, ω, rl, rs, q⟩ => by
  unfold tFrz at q
  split at q
  · rename_i s1 S1 hz
    unfold frzS at hz
    split at hz
    · rename_i k hk
      split at hz
      · rename_i xs g
        cases hz
        obtain ⟨v, hv, r⟩ := rs.2 i _ hk
        obtain ⟨p, vs, rfl, rfl, h1, r1⟩ := Rp.ptr rl r g
        obtain ⟨ω1, e1, rl1, hF⟩ := rl.frz g h1 r1
        have e : σ.set i (some (V.ref (ω.al k))) = σ := by
          have hl := (List.getElem?_eq_some_iff.mp hv).1
          have h2 := (List.getElem?_eq_some_iff.mp hv).2
          rw [← h2, List.set_getElem_self]
        have rs1 := (rs.ext e1).set (Rp.mlst hF (r1.ext e1)) i
        rw [e] at rs1
        exact ⟨_, _, ω1, rl1, rs1, SPg.shift e1 q⟩
      · cases hz
    · cases hz
  · exact q.elim
theorem gs_while (hp : PassesOwn (model X.prog X.w) X.A X.env X.xe) (hc : GT X T W c tc) (hb : GSs X T W body t) : GS X T W (.While c body [] pos) (Q.tWhile tc t) := PS.imp (ps_while hp hc hb) fun D σ H ⟨s, S, ω, rl, rs, q⟩ => by
  refine ⟨fun m σ H => ∃ s S ω, Rl X.K T.toTb ω S H ∧ Rs X.K T.toTb ω s σ ∧ SPg X.K T W D ω S H (whL tc t m s S), ⟨whMost, s, S, ω, rl, rs, q⟩, ?_⟩
  rintro m σ1 H1 ⟨s1, S1, ω1, rl1, rs1, q1⟩
  cases m with
  | zero => exact q1.elim
  | succ m =>
    refine ⟨s1, S1, ω1, rl1, rs1, ?_⟩
    unfold whL at q1
    cases e0 : tc s1 S1 with
    | ok d S' =>
      rw [e0] at q1
      simp only [onE] at q1
      cases d <;> try exact q1.elim
      rename_i k
      intro ω' H' c e rl2 r
      cases r
      have q2 := SPg.shift e q1
      cases k with
      | false => exact iteF (q2 ω' σ1 H' Ext.refl rl2 (rs1.ext e))
      | true =>
        refine iteT ⟨fun σ' H' => ∃ s S ω, Rl X.K T.toTb ω S H' ∧ Rs X.K T.toTb ω s σ' ∧ SPg X.K T W D ω S H' (whL tc t m s S), fun σ' H' w => ⟨m, Nat.lt_succ_self _, w⟩, s1, S', ω', rl2, rs1.ext e, ?_⟩
        have q3 : SPg X.K T W D ω' S' H' (match t s1 S' with
          | some (.nx s3, S3) => whL tc t m s3 S3
          | some (.ct s3, S3) => whL tc t m s3 S3
          | some (.bk s3, S3) => some (.nx s3, S3)
          | some (.ret d, S3) => some (.ret d, S3)
          | some (.ex e s3, S3) => some (.ex e s3, S3)
          | none => none) := q2
        cases e3 : t s1 S' with
        | none => rw [e3] at q3; exact q3
        | some p =>
          obtain ⟨f, S3⟩ := p
          rw [e3] at q3
          cases f with
          | nx s3 => exact fun ω4 σ4 H4 ex4 rl4 rs4 => ⟨s3, S3, ω4, rl4, rs4, SPg.shift ex4 q3⟩
          | ct s3 => exact fun ω4 σ4 H4 ex4 rl4 rs4 => ⟨s3, S3, ω4, rl4, rs4, SPg.shift ex4 q3⟩
          | bk s3 => exact q3
          | ret d => exact q3
          | ex x s3 => exact q3
    | ex x S' =>
      rw [e0] at q1
      exact fun ω' H' c dd e rl' x => q1 ω' σ1 H' c dd e rl' (rs1.ext e) x
    | err => rw [e0] at q1; exact q1
theorem gs_for {p : Pat} {iter : Expr} {src : Src} (hp : PassesOwn (model X.prog X.w) X.A X.env X.xe) (hc : X.calm = true) (hi : GI X T W tg iter src) (hg : GP X T tg p) (hb : GSs X T W body t) (hs : ∀ x, foldedSetIterable iter X.env x = pure x := by intro _; rfl) :
    GS X T W (.For tg iter body [] pos) (Q.tFor p src t) := PS.imp (ps_for hp hc hi hg hb hs) fun D σ H ⟨s, S, ω, rl, rs, q⟩ => by
  refine ⟨s, S, ω, rl, rs, ?_⟩
  unfold Q.tFor at q
  cases e0 : src s S with
  | ok ds S' =>
    rw [e0] at q
    intro ω' H' J e rl' g
    obtain ⟨G, Y, wk, gG, gY⟩ := g
    have q' : SPg X.K T W D ω' S' H' (forL p t ds s S') := SPg.shift e q
    refine for_it wk (fun i σ H => ∃ s S ω1, Later ω' ω1 ∧ Rl X.K T.toTb ω1 S H ∧ Rs X.K T.toTb ω1 s σ ∧ SPg X.K T W D ω1 S H (forL p t (ds.drop i) s S)) ⟨s, S', ω', Later.refl, rl', rs.ext e, q'⟩ (fun i σ H _ ⟨s1, S1, ω1, lt, rl1, _, _⟩ => gG H (lt.fix.trans rl1.sub)) ?_ ?_
    · rintro i x σ1 H1 H2 hi ⟨s1, S1, ω1, lt, rl1, rs1, q1⟩ y
      obtain ⟨d, hd⟩ : ∃ d, ds[i]? = some d := ⟨ds[i], by simp [hi]⟩
      obtain ⟨ω2, e2, rl2, r2⟩ := gY i d ω1 S1 H1 x H2 hd lt rl1 y
      have hdrop : ds.drop i = d :: ds.drop (i + 1) := by
        obtain ⟨h1, h2⟩ := List.getElem?_eq_some_iff.mp hd
        rw [List.drop_eq_getElem_cons h1, h2]
      rw [hdrop] at q1
      unfold forL at q1
      cases hput : p.put d s1 with
      | none => rw [hput] at q1; exact q1.elim
      | some s2 =>
        rw [hput] at q1
        refine ⟨s1, S1, ω2, d, s2, rl2, rs1.ext e2, r2, hput, fun σ3 rs3 _ => ⟨s2, S1, ω2, rl2, rs3, ?_⟩⟩
        have q2 := SPg.shift e2 q1
        have lt2 := lt.trans e2.later
        have q3 : SPg X.K T W D ω2 S1 H2 (match t s2 S1 with
          | some (.nx s2, S2) => forL p t (ds.drop (i + 1)) s2 S2
          | some (.ct s2, S2) => forL p t (ds.drop (i + 1)) s2 S2
          | some (.bk s2, S2) => some (.nx s2, S2)
          | some (.ret d, S2) => some (.ret d, S2)
          | some (.ex e s2, S2) => some (.ex e s2, S2)
          | none => none) := q2
        cases e3 : t s2 S1 with
        | none => rw [e3] at q3; exact q3
        | some pr =>
          obtain ⟨f, S3⟩ := pr
          rw [e3] at q3
          cases f with
          | nx s3 => exact fun ω4 σ4 H4 ex4 rl4 rs4 => ⟨s3, S3, ω4, lt2.trans ex4.later, rl4, rs4, SPg.shift ex4 q3⟩
          | ct s3 => exact fun ω4 σ4 H4 ex4 rl4 rs4 => ⟨s3, S3, ω4, lt2.trans ex4.later, rl4, rs4, SPg.shift ex4 q3⟩
          | bk s3 => exact q3
          | ret d => exact q3
          | ex x s3 => exact q3
    · rintro σ1 H1 ⟨s1, S1, ω1, lt, rl1, rs1, q1⟩
      rw [List.drop_length] at q1
      exact q1 ω1 σ1 H1 Ext.refl rl1 rs1
  | ex x S' =>
    rw [e0] at q
    exact fun ω' H' c dd e rl' x => q ω' σ H' c dd e rl' (rs.ext e) x
  | err => rw [e0] at q; exact q
abbrev Wn : WX := fun _ _ _ _ => False
theorem Rs.wipe {K : PySem.W.Frag} {T : Tb} {ω : Wd} {s : Sl} {σ : L2.St} (h : Rs K T ω s σ) : ∀ vs : List Nat, Rs K T ω (wipeS s vs) (L2.wipe σ vs)
  | [] => h
  | v :: vs => (Rs.wipe h vs).drop v
theorem Own.not_upd {K : PySem.W.Frag} {ω : Wd} {S : Store} {H : Hp} {A : Addr} {o : HO} (rl : Rl K T.toTb ω S H) (n : ¬ Own ω S A) (hA : H A = none ∨ ∃ vs, H A = some (.lst vs)) : Rl K T.toTb ω S (upd H A o) := by
  refine ⟨⟨fun b q h => ?_, rl.len, fun k ds h => ?_, rl.inj, rl.lenO, fun k C fs h => ?_, rl.injO, rl.nt, tabs_put rl.tab hA⟩, fun p hp => ⟨(rl.pinned p hp).1, ?_⟩⟩
  · rw [upd_ne fun z => n (.inl ⟨q, by rw [← z]; exact h⟩)]; exact rl.sub _ _ h
  · obtain ⟨a1, a2, vs, a3, a4⟩ := rl.obj k ds h
    exact ⟨a1, a2, vs, by rw [upd_ne fun z => n (.inr (.inl ⟨k, ds, h, z⟩))]; exact a3, a4⟩
  · obtain ⟨a1, a2, dx, gs, a3, a4⟩ := rl.objO k C fs h
    refine ⟨a1, a2, dx, gs, ?_, a4⟩
    have hk : k < ω.m := by rw [← rl.lenO]; exact (List.getElem?_eq_some_iff.mp h).1
    rw [upd_ne fun z => n (.inr (.inr ⟨k, hk, z⟩))]; exact a3
  · have h2 := (rl.pinned p hp).2
    rw [upd_ne fun z => by
      rw [z] at h2
      rcases hA with h | ⟨vs, h⟩
      · rw [h] at h2; cases h2
      · rw [h] at h2; exact codeO_lst h2.symm]
    exact h2
theorem Rl.adopt {K : PySem.W.Frag} {ω0 ω : Wd} {S0 S : Store} {H0 H : Hp} {A : Addr} {o : HO} (rl : Rl K T.toTb ω S H) (e : Ext ω0 S0 H0 ω S H) (h0 : H0 A = none) (h : H A = some o) (n : ¬ Own ω S A) (ho : ∀ ps, o ≠ .tbl ps := by intro ps z; cases z) :
    ∃ ω', Ext ω0 S0 H0 ω' S H ∧ Rl K T.toTb ω' S H ∧ ω'.F A = some o ∧ Later ω ω' := by
  have hF : ω.F A = none := by
    cases q : ω.F A with
    | none => rfl
    | some u => exact absurd (.inl ⟨u, q⟩) n
  have fx : Same ω.F (upd ω.F A o) := fun b q h => by rw [upd_ne (ne_of_none h hF)]; exact h
  have lt : Later ω ⟨upd ω.F A o, ω.al, ω.n, ω.ao, ω.m⟩ := ⟨fx, fun _ _ => rfl, Nat.le_refl _, fun _ _ => rfl, Nat.le_refl _⟩
  have own : ∀ b, b ≠ A → Own ⟨upd ω.F A o, ω.al, ω.n, ω.ao, ω.m⟩ S b → Own ω S b := fun b hb h => by
    rcases h with ⟨q, h⟩ | h | h
    · have h' : upd ω.F A o b = some q := h
      rw [upd_ne hb] at h'
      exact .inl ⟨q, h'⟩
    · exact .inr (.inl h)
    · exact .inr (.inr h)
  refine ⟨⟨upd ω.F A o, ω.al, ω.n, ω.ao, ω.m⟩, ⟨e.fix.trans fx, e.al, e.len, e.ao, e.lenO, e.live, fun b q h1 t n1 => ?_⟩, ⟨⟨fun b q h1 => ?_, rl.len, fun k ds h1 => ?_, rl.inj, rl.lenO, fun k C fs h1 => ?_, rl.injO, fun b ps h1 => ?_, rl.tab⟩, fun p hp => ⟨(rl.pinned p hp).1.trans lt, (rl.pinned p hp).2⟩⟩, upd_same, lt⟩
  · obtain ⟨h2, n2⟩ := e.frame b q h1 t n1
    exact ⟨h2, fun z => n2 (own b (ne_of_none h1 h0) z)⟩
  · have h' : upd ω.F A o b = some q := h1
    by_cases hb : b = A
    · rw [hb, upd_same] at h'; rw [hb, h]; exact h'
    · rw [upd_ne hb] at h'; exact rl.sub _ _ h'
  · obtain ⟨a1, a2, vs, a3, a4⟩ := rl.obj k ds h1
    refine ⟨?_, a2, vs, a3, a4.late lt⟩
    show upd ω.F A o (ω.al k) = none
    rw [upd_ne fun z => n (.inr (.inl ⟨k, ds, h1, z⟩))]; exact a1
  · obtain ⟨a1, a2, dx, gs, a3, a4⟩ := rl.objO k C fs h1
    have hk : k < ω.m := by rw [← rl.lenO]; exact (List.getElem?_eq_some_iff.mp h1).1
    refine ⟨?_, a2, dx, gs, a3, Rpf.mono lt.fix lt.al lt.len lt.ao lt.lenO _ _ a4⟩
    show upd ω.F A o (ω.ao k) = none
    rw [upd_ne fun z => n (.inr (.inr ⟨k, hk, z⟩))]; exact a1
  · have h' : upd ω.F A o b = some (.tbl ps) := h1
    by_cases hb : b = A
    · rw [hb, upd_same] at h'; exact ho ps (Option.some.inj h')
    · rw [upd_ne hb] at h'; exact rl.nt b ps h'
theorem Ext.upd_out {ω0 ω : Wd} {S0 S : Store} {H0 H : Hp} {A : Addr} {o : HO} (e : Ext ω0 S0 H0 ω S H) (h0 : H0 A = none) : Ext ω0 S0 H0 ω S (upd H A o) :=
  ⟨e.fix, e.al, e.len, e.ao, e.lenO, e.live, fun b q h t n => by
    obtain ⟨h1, n1⟩ := e.frame b q h t n
    exact ⟨by rw [upd_ne (ne_of_none h h0)]; exact h1, n1⟩⟩
theorem own_of {K : PySem.W.Frag} {ω : Wd} {S : Store} {H : Hp} {A : Addr} (rl : Rl K T.toTb ω S H) (h : H A = none) : ¬ Own ω S A := by
  rintro (⟨q, z⟩ | ⟨k, ds, z, e⟩ | ⟨k, hk, e⟩)
  · have := rl.sub _ _ z
    rw [h] at this; cases this
  · obtain ⟨_, _, vs, a3, _⟩ := rl.obj k ds z
    rw [e, h] at a3; cases a3
  · have hk' : k < S.O.length := by rw [rl.lenO]; exact hk
    obtain ⟨_, _, _, _, a3, _⟩ := rl.objO k _ _ (show S.O[k]? = some (S.O[k].1, S.O[k].2) by simp [hk'])
    rw [e, h] at a3; cases a3
theorem lc_ok {vs : List Nat} {p : Pat} {src : Src} {t e : Q.TE} (hin : ∀ i ∈ p.slots, i ∈ vs) (σ : L2.St) (H : Hp) (Qv : VK) (h : tEr X.K T W (eLc vs p src t e) σ H Qv) :
    tLc (tIr X.K T W src) (tGr X.K T p) (tTr X.K T Wn t) (tEr X.K T Wn e) vs σ H Qv := by
  obtain ⟨s, S, ω, rl, rs, q⟩ := h
  refine ⟨s, S, ω, rl, rs, (EPg.bind q).mono ?_⟩
  rintro J H1 ⟨ω1, S1, ds, e1, rl1, ⟨G, Y, wk, gG, gY⟩, q1⟩
  intro A hA
  have nA := own_of rl1 hA
  have rs1 : Rs X.K T.toTb ω1 (wipeS s vs) (L2.wipe σ vs) := (rs.ext e1).wipe vs
  refine lc_it wk (fun i H => ∃ S2 ω2 acc av, Ext ω1 S1 H1 ω2 S2 H ∧ Rl X.K T.toTb ω2 S2 H ∧ ¬ Own ω2 S2 A ∧ H A = some (.lst av) ∧ Rps X.K T.toTb ω2 acc av ∧ EPg X.K T (Rp X.K T.toTb) W σ ω1 S1 H1 (lcL p t e (wipeS s vs) (ds.drop i) acc S2) Qv)
    ⟨S1, ω1, [], [], Ext.refl.upd_out hA, Own.not_upd rl1 nA (.inl hA), nA, upd_same, Rps.nil, q1⟩ (fun i H _ ⟨S2, ω2, acc, av, x1, x2, _⟩ => gG H (x1.fix.trans x2.sub)) ?_ ?_
  · rintro i x H2 H3 hi ⟨S2, ω2, acc, av, x1, x2, x3, x4, x5, q2⟩ y
    obtain ⟨d, hd⟩ : ∃ d, ds[i]? = some d := ⟨ds[i], by simp [hi]⟩
    obtain ⟨ω3, e3, rl3, r3⟩ := gY i d ω2 S2 H2 x H3 hd x1.later x2 y
    obtain ⟨x4', x3'⟩ := e3.frame A _ x4 (fun ps z => by cases z) x3
    have hdrop : ds.drop i = d :: ds.drop (i + 1) := by
      obtain ⟨h1, h2⟩ := List.getElem?_eq_some_iff.mp hd
      rw [List.drop_eq_getElem_cons h1, h2]
    rw [hdrop] at q2
    unfold lcL at q2
    cases hput : p.put d (wipeS s vs) with
    | none => rw [hput] at q2; exact q2.elim
    | some s2 =>
      simp only [hput] at q2
      have x13 := x1.trans e3
      refine ⟨wipeS s vs, S2, ω3, d, s2, rl3, (rs1.ext x1).ext e3, r3, hput, fun σ3 rs3 hw => ⟨?_, ?_⟩⟩
      · have := hw vs hin
        rw [this]
        -- wiping twice is wiping once
        have idem : ∀ (ws : List Nat) (τ : L2.St), (∀ i ∈ ws, τ[i]? = none ∨ τ[i]? = some none) → L2.wipe τ ws = τ := by
          intro ws
          induction ws with
          | nil => intro τ _; rfl
          | cons w ws ih =>
            intro τ hτ
            unfold L2.wipe
            rw [ih τ fun i hi => hτ i (List.mem_cons_of_mem _ hi)]
            rcases hτ w List.mem_cons_self with z | z
            · exact List.set_eq_of_length_le (List.getElem?_eq_none_iff.mp z)
            · obtain ⟨h1, h2⟩ := List.getElem?_eq_some_iff.mp z
              rw [← h2, List.set_getElem_self]
        refine idem vs _ fun i hi => ?_
        cases z : (L2.wipe σ vs)[i]? with
        | none => exact .inl rfl
        | some o => cases o with
          | none => exact .inr rfl
          | some v => exact absurd hi (wipe_some z).2
      · refine ⟨s2, S2, ω3, rl3, rs3, ?_⟩
        cases e4 : t s2 S2 with
        | err => rw [e4] at q2; exact q2
        | ex x S3 => rw [e4] at q2; exact q2.elim
        | ok b S3 =>
          rw [e4] at q2
          cases b <;> try exact q2.elim
          rename_i k
          intro ω4 H4 c ex4 rl4 rb
          cases rb
          obtain ⟨y4, y3⟩ := ex4.frame A _ x4' (fun ps z => by cases z) x3'
          cases k with
          | false => exact iteF ⟨S3, ω4, acc, av, x13.trans ex4, rl4, y3, y4, (x5.ext e3).ext ex4, q2⟩
          | true =>
            refine iteT ⟨s2, S3, ω4, rl4, rs3.ext ex4, ?_⟩
            cases e5 : e s2 S3 with
            | err => simp only [e5] at q2; exact q2.elim
            | ex x S4 => simp only [e5] at q2; exact q2.elim
            | ok r S4 =>
              simp only [e5] at q2
              intro ω5 H5 v ex5 rl5 rv
              obtain ⟨z4, z3⟩ := ex5.frame A _ y4 (fun ps z => by cases z) y3
              split at q2
              · rename_i hline
                refine ⟨av, z4, by rw [← x5.length]; exact of_decide_eq_true hline, S4, ω5, acc ++ [r], av ++ [v], ((x13.trans ex4).trans ex5).upd_out hA, Own.not_upd rl5 z3 (.inr ⟨_, z4⟩), z3, upd_same, (((x5.ext e3).ext ex4).ext ex5).append (Rps.cons rv Rps.nil), q2⟩
              · exact q2.elim
  · rintro H2 ⟨S2, ω2, acc, av, x1, x2, x3, x4, x5, q2⟩
    rw [List.drop_length] at q2
    unfold lcL at q2
    obtain ⟨ω3, x1', rl3, hF, lt⟩ := Rl.adopt x2 x1 hA x4 x3
    exact q2 ω3 H2 _ x1' rl3 (Rp.mlst hF (x5.late lt))
theorem ge_lc {elt iter : Expr} {ifs : List Expr} {scope : Scope} {own : List (Str × Nat)} {p : Pat} {src : Src} {t e : Q.TE} (hc : X.calm = true) (hN : X.N.Nodup) (hi : GI X T W tg iter src) (ok : BlkOk X.N X.env.scope scope own) (hin : ∀ i ∈ p.slots, i ∈ own.map (·.2))
    (hg : ∀ (s : Shared) (H : Hp) (C : Addr) (cl : List (Str × Addr)) (fp : List Addr), GP (X.blk s H scope (compEnvC scope cl C X.env) fp) T tg p)
    (ht : ∀ (s : Shared) (H : Hp) (C : Addr) (cl : List (Str × Addr)) (fp : List Addr), PTs (X.blk s H scope (compEnvC scope cl C X.env) fp) ifs (tTr X.K T Wn t))
    (he : ∀ (s : Shared) (H : Hp) (C : Addr) (cl : List (Str × Addr)) (fp : List Addr), GE (X.blk s H scope (compEnvC scope cl C X.env) fp) T Wn elt e) (hs : ∀ x, foldedSetIterable iter X.env x = pure x := by intro _; rfl) :
    GE X T W (.ListComp elt [⟨tg, iter, ifs, 0⟩] scope pos) (eLc (own.map (·.2)) p src t e) := PE.imp (pe_lc (g := tGr X.K T p) (tt := tTr X.K T Wn t) (te := tEr X.K T Wn e) hc hN hi ok hg ht he hs) (lc_ok hin)
theorem gs_setLc {i : Nat} {y : Str} {py spos : Pos} {elt iter : Expr} {ifs : List Expr} {scope : Scope} {own : List (Str × Nat)} {p : Pat} {src : Src} {t e : Q.TE} (hc : X.calm = true) (hN : X.N.Nodup) (hy : X.N[i]? = some y) (hyl : X.env.scope.names.lookup y = some .local)
    (hsw : swapsWith (.ListComp elt [⟨tg, iter, ifs, 0⟩] scope pos) (some (.Name y py)) spos.line X.env = pure true) (hi : GI X T W tg iter src) (ok : BlkOk X.N X.env.scope scope own) (hin : ∀ i ∈ p.slots, i ∈ own.map (·.2))
    (hg : ∀ (s : Shared) (H : Hp) (C : Addr) (cl : List (Str × Addr)) (fp : List Addr), GP (X.blk s H scope (compEnvC scope cl C X.env) fp) T tg p)
    (ht : ∀ (s : Shared) (H : Hp) (C : Addr) (cl : List (Str × Addr)) (fp : List Addr), PTs (X.blk s H scope (compEnvC scope cl C X.env) fp) ifs (tTr X.K T Wn t))
    (he : ∀ (s : Shared) (H : Hp) (C : Addr) (cl : List (Str × Addr)) (fp : List Addr), GE (X.blk s H scope (compEnvC scope cl C X.env) fp) T Wn elt e) (hs : ∀ x, foldedSetIterable iter X.env x = pure x := by intro _; rfl) :
    GS X T W (.Assign [.Name y py] (.ListComp elt [⟨tg, iter, ifs, 0⟩] scope pos) spos) (tSet (.nm i) (eLc (own.map (·.2)) p src t e)) := gs_set' (ps_setLc (g := tGr X.K T p) (tt := tTr X.K T Wn t) (te := tEr X.K T Wn e) hc hN hy hyl hsw hi ok hg ht he hs) (lc_ok hin)
theorem gts_nil {K : PySem.W.Frag} : PTs X [] (tTr K T W (eC (.bl true))) := ⟨fun pins s σ H Qv I ⟨s1, S, ω, rl, rs, q⟩ => wpAny_tests_nil ⟨H, I, q.now rl rfl⟩⟩
theorem gts_one (h : GT X T W c tc) : PTs X [c] (tTr X.K T W tc) := pts_one h
def spOf (K : PySem.W.Frag) (T : Tx) (P : Prog) (k id : Nat) : Sp := fun vs H Qv E => ∃ ds S ω, Rl K T.toTb ω S H ∧ Rps K T.toTb ω ds vs ∧ EPg K T (Rp K T.toTb) (fun cls dd _ H => E cls dd H) [] ω S H (callN P k id ds S) Qv
theorem ge_call {k id : Nat} {P : Prog} {f : Addr} {fd : FuncData} {ps : List Str} {x : Str} {p : Pos} (F : FnOk X.prog X.w X.K X.mg X.base (L2.CX X.prog X.w) k f fd ps (spOf X.K T P k id)) (hr : Room k X.A) (hg : Gl X x) (hm : X.mg x = some (.ref f)) (hk : PySem.W.keepIn X.K (.ref f) = true) (hb : Binds X.K fd ps []) (tk : Takes X W)
    (ha : GA X T W (e :: es) ts) (hdb : (x == ("__debug__" : Str)) = false := by decide) (he : starEach (e :: es) X.env = (false, eval e X.env) :: starEach es X.env := by rfl) (hpl : (backTo pos (starEach es X.env)).any (·.1) = false := by rfl) :
    GE X T W (.Call (.Name x p) (e :: es) [] pos) (eCall (callN P k) id ts) := PE.imp (pe_callS F hr hg hm hk hb (fun σ => passAt tk σ) ha hdb he hpl) fun σ H Qv ⟨s, S, ω, rl, rs, q⟩ => by
  refine ⟨s, S, ω, rl, rs, (EPg.bind q).mono ?_⟩
  rintro vs H1 ⟨ω1, S1, ds, e1, rl1, r1, q1⟩
  refine ⟨ds, S1, ω1, rl1, r1, ?_⟩
  cases z : callN P k id ds S1 with
  | ok d S2 => rw [z] at q1; exact q1
  | ex x S2 => rw [z] at q1; exact q1
  | err => rw [z] at q1; exact q1
theorem ge_call0 {k id : Nat} {P : Prog} {f : Addr} {fd : FuncData} {ps : List Str} {x : Str} {p : Pos} (F : FnOk X.prog X.w X.K X.mg X.base (L2.CX X.prog X.w) k f fd ps (spOf X.K T P k id)) (hr : Room k X.A) (hg : Gl X x) (hm : X.mg x = some (.ref f)) (hk : PySem.W.keepIn X.K (.ref f) = true) (hb : Binds X.K fd ps []) (tk : Takes X W)
    (hdb : (x == ("__debug__" : Str)) = false := by decide) : GE X T W (.Call (.Name x p) [] [] pos) (eCall (callN P k) id []) := by
  refine PE.imp (t := fun σ H Qv => spOf X.K T P k id [] H Qv (WE W σ)) ⟨fun pins s σ H Qv I h => ?_⟩ fun σ H Qv ⟨s, S, ω, rl, rs, q⟩ => ⟨[], S, ω, rl, Rps.nil, ?_⟩
  · refine wpAny_Call_Name_kw (ld_glob I hg hm ?_ hdb)
    exact PySem.W.callWith_K0 I.kIn hk (run_fnS (us := []) F hr hb (passAt tk σ) I .nil h)
  · have q1 : EPg X.K T (Rp X.K T.toTb) W σ ω S H (callN P k id [] S) Qv := q
    cases z : callN P k id [] S with
    | ok d S2 => rw [z] at q1; exact q1
    | ex x S2 => rw [z] at q1; exact q1
    | err => rw [z] at q1; exact q1
theorem Rs.start {K : PySem.W.Frag} {T : Tb} {ω : Wd} {ds : List D} {vs : List V} {N : List Str} {n : Nat} (r : Rps K T ω ds vs) (hn : n = N.length - vs.length) : Rs K T ω (ds.map some ++ List.replicate n none) (start N vs) := by
  unfold L2.start
  refine ⟨by simp [r.length, hn], fun i d h => ?_⟩
  by_cases hi : i < ds.length
  · rw [List.getElem?_append_left (by simpa using hi), List.getElem?_map] at h
    cases e : ds[i]? with
    | none => rw [e] at h; cases h
    | some d' =>
      rw [e] at h
      cases h
      obtain ⟨v, hv, rv⟩ := r.get e
      have hi' : i < vs.length := (List.getElem?_eq_some_iff.mp hv).1
      exact ⟨v, by rw [List.getElem?_append_left (by simpa using hi'), List.getElem?_map, hv]; rfl, rv⟩
  · rw [List.getElem?_append_right (by simpa using Nat.le_of_not_lt hi), List.getElem?_replicate] at h
    split at h <;> cases h
end
section
variable {P : Program} {w : World} {K : PySem.W.Frag} {mg : Str → Option Value} {base : Heap} {x qual : Str} {params : Arguments} {body : List Stmt} {scope : Scope} {f : Addr} {fd : FuncData} {T : Tx}
def CdOk (K : PySem.W.Frag) (f : Addr) (qual : Str) (cdv : Value) : Prop := ∃ (oc : Value) (od : Option Addr) (osl : Array (Option Value)) (fd : FuncData), K.lookup f = some ⟨oc, od, .func fd, osl⟩ ∧ fd.code = cdv ∧ PySem.W.codeIn K cdv qual = true
theorem sp_len {ps : List Str} {k id : Nat} {Pr : Prog} {d : FnD} {K : PySem.W.Frag} {vs : List V} {H : Hp} {Qv : VK} {E : XK} (hP : Pr id = some d) (hnp : d.np = ps.length) (z : spOf K T Pr (k + 1) id vs H Qv E) : vs.length = ps.length := by
  obtain ⟨ds, S, ω, rl, r, q⟩ := z
  have q' : EPg K T (Rp K T.toTb) _ [] ω S H (callN Pr (k + 1) id ds S) Qv := q
  rw [callN_eq hP] at q'
  unfold runFn at q'
  split at q'
  · rw [← r.length, ← hnp]; assumption
  · exact q'.elim
theorem sp_body {N : List Str} {k id : Nat} {Pr : Prog} {d : FnD} {K : PySem.W.Frag} {vs : List V} {H : Hp} {Qv : VK} {E : XK} {ps : List Str} (hP : Pr id = some d) (hns : d.ns = N.length) (hnp : d.np = ps.length) (z : spOf K T Pr (k + 1) id vs H Qv E) :
    tSr K T (fun cls dd _ H => E cls dd H) (d.body (callN Pr k)) { nx := fun _ H' => Qv .non H', rt := Qv } (start N vs) H := by
  obtain ⟨ds, S, ω, rl, r, q⟩ := z
  have q' : EPg K T (Rp K T.toTb) (fun cls dd _ H => E cls dd H) [] ω S H (callN Pr (k + 1) id ds S) Qv := q
  rw [callN_eq hP] at q'
  unfold runFn at q'
  split at q'
  · rename_i hl
    refine ⟨_, S, ω, rl, Rs.start (n := d.ns - d.np) r (by rw [hns, ← r.length, hl]), ?_⟩
    cases e : d.body (callN Pr k) (ds.map some ++ List.replicate (d.ns - d.np) none) S with
    | none => rw [e] at q'; exact q'
    | some p =>
      obtain ⟨fl, S'⟩ := p
      rw [e] at q'
      have lv : ∀ {v : D} {u : V} {ω1 : Wd} {H1 : Hp}, EPg K T (Rp K T.toTb) (fun cls dd _ H => E cls dd H) [] ω S H (leave d.keep S v S') Qv → Ext ω S H ω1 S' H1 → Rl K T.toTb ω1 S' H1 → Rp K T.toTb ω1 v u → Qv u H1 := fun {v u ω1 H1} q ex rl1 r1 => by
        unfold leave at q
        split at q
        · exact q ω1 H1 u ex rl1 r1
        · split at q
          · rename_i hf
            obtain ⟨ω2, ex2, rl2, fl, _⟩ := Rl.cut rl rl1 ex
            exact q ω2 H1 u ex2 rl2 (fl _ _ hf r1)
          · exact q.elim
      cases fl with
      | nx s' => exact fun ω1 σ1 H1 ex rl1 _ => lv q' ex rl1 Rp.mnon
      | ret v => exact fun ω1 H1 u ex rl1 r1 => lv q' ex rl1 r1
      | bk s' => exact q'.elim
      | ct s' => exact q'.elim
      | ex y s' =>
        intro ω1 σ1 H1 cls dd ex rl1 _ xr
        simp only at q'
        split at q'
        · exact q' ω1 H1 cls dd ex rl1 xr
        · split at q'
          · rename_i hf
            obtain ⟨ω2, ex2, rl2, fl, hFF, _⟩ := Rl.cut rl rl1 ex
            refine q' ω2 H1 cls dd ex2 rl2 ⟨xr.1, ?_⟩
            have x2 := xr.2
            split at x2
            · exact x2
            · rename_i z hz
              obtain ⟨a, b, c1, c2, c3⟩ := x2
              rw [hz] at hf
              simp [flats] at hf
              exact ⟨a, b, c1, by rw [hFF]; exact c2, fl _ _ hf c3⟩
            · exact x2.elim
          · exact q'.elim
  · exact q'.elim
theorem fn_okC {N ps : List Str} {k id : Nat} {Pr : Prog} {d : FnD} (F : FunD K x qual params body scope [] [] f fd) (Sc : FnScope N ps scope) (hP : Pr id = some d) (hnp : d.np = ps.length) (hns : d.ns = N.length)
    (hbody : ∀ (cdv : Value), CdOk K f qual cdv → ∀ (A : Around) (outer : List Env) (s : Shared) (H : Hp) (E : XK), Room k (A.deeper (envOfC qual scope s.heap.objs.size f cdv)) →
      GSs (cxOf (L2.CX P w) P w K mg base N qual scope f cdv A outer s H E) T (fun cls dd _ H => E cls dd H) body (d.body (callN Pr k))) : FnOk P w K mg base (L2.CX P w) (k + 1) f fd ps (spOf K T Pr (k + 1) id) := by
  obtain ⟨oc, od, dV, kV, doc, pm, an, cdv, ct, osl, rfl, lk, hcd, _, _⟩ := F.ex
  exact fn_of lk hcd Sc (fun vs H Qv E z => sp_len hP hnp z) fun A outer s H vs Qv E hr z => ⟨_, hbody cdv ⟨oc, od, osl, _, lk, rfl, hcd⟩ A outer s H E hr, sp_body hP hns hnp z⟩
theorem fn_ok {N ps : List Str} {k id : Nat} {Pr : Prog} {d : FnD} (F : FunD K x qual params body scope [] [] f fd) (Sc : FnScope N ps scope) (hP : Pr id = some d) (hnp : d.np = ps.length) (hns : d.ns = N.length)
    (hbody : ∀ (cdv : Value) (A : Around) (outer : List Env) (s : Shared) (H : Hp) (E : XK), Room k (A.deeper (envOfC qual scope s.heap.objs.size f cdv)) →
      GSs (cxOf (L2.CX P w) P w K mg base N qual scope f cdv A outer s H E) T (fun cls dd _ H => E cls dd H) body (d.body (callN Pr k))) : FnOk P w K mg base (L2.CX P w) (k + 1) f fd ps (spOf K T Pr (k + 1) id) := fn_okC F Sc hP hnp hns fun cdv _ => hbody cdv
end
structure FnO (P : Program) (w : World) (K : PySem.W.Frag) (mg : Str → Option Value) (base : Heap) (T : Tx) (Pr : Prog) (k id : Nat) (x : Str) (f : Addr) (ps : List Str) : Prop where
  g : mg x = some (.ref f)
  kp : PySem.W.keepIn K (.ref f) = true
  fn : ∃ fd, Binds K fd ps [] ∧ FnOk P w K mg base (L2.CX P w) k f fd ps (spOf K T Pr k id)
theorem fn_zero {P : Program} {w : World} {K : PySem.W.Frag} {mg : Str → Option Value} {base : Heap} {T : Tx} {Pr : Prog} {id : Nat} {f : Addr} {fd : FuncData} {ps : List Str} : FnOk P w K mg base (L2.CX P w) 0 f fd ps (spOf K T Pr 0 id) :=
  ⟨fun vs H Qv E ⟨ds, S, ω, rl, r, q⟩ => q.elim, fun A outer s H args us vs Qv E _ _ _ _ ⟨ds, S, ω, rl, r, q⟩ => q.elim⟩
section
variable {X : Cx} {T : Tx} {W : WX} {e : Expr} {es : List Expr} {ts : List Q.TE} {pos : Pos}
theorem ge_fn {k id : Nat} {Pr : Prog} {f : Addr} {ps : List Str} {x : Str} {p : Pos} (F : FnO X.prog X.w X.K X.mg X.base T Pr k id x f ps) (hr : Room k X.A) (tk : Takes X W) (hg : Gl X x) (ha : GA X T W (e :: es) ts)
    (hdb : (x == ("__debug__" : Str)) = false := by decide) (he : starEach (e :: es) X.env = (false, eval e X.env) :: starEach es X.env := by rfl) (hpl : (backTo pos (starEach es X.env)).any (·.1) = false := by rfl) :
    GE X T W (.Call (.Name x p) (e :: es) [] pos) (eCall (callN Pr k) id ts) := by
  obtain ⟨fd, hb, ok⟩ := F.fn
  exact ge_call ok hr hg F.g F.kp hb tk ha hdb he hpl
theorem ge_fn0 {k id : Nat} {Pr : Prog} {f : Addr} {ps : List Str} {x : Str} {p : Pos} (F : FnO X.prog X.w X.K X.mg X.base T Pr k id x f ps) (hr : Room k X.A) (tk : Takes X W) (hg : Gl X x) (hdb : (x == ("__debug__" : Str)) = false := by decide) :
    GE X T W (.Call (.Name x p) [] [] pos) (eCall (callN Pr k) id []) := by
  obtain ⟨fd, hb, ok⟩ := F.fn
  exact ge_call0 ok hr hg F.g F.kp hb tk hdb
theorem gs_never {st : Stmt} : GS X T W st tNo := PS.imp ps_never fun D σ H ⟨s, S, ω, rl, rs, q⟩ => q
end
end Q
namespace Q
open PySem PySem.Spec PyProof.Rows L2
def ItzS (x y : Str) : It :=
  ⟨fun i _ => i < x.cps.size ∧ i < y.cps.size,
    fun i H v H' => ∃ T c d, v = .ref T ∧ H T = none ∧ H' = upd H T (.tup [.str ⟨#[c]⟩, .str ⟨#[d]⟩]) ∧ x.cps[i]? = some c ∧ y.cps[i]? = some d,
    fun i _ => i ≤ x.cps.size ∧ i ≤ y.cps.size ∧ (i = x.cps.size ∨ i = y.cps.size)⟩
theorem turn_zipS {P : Program} {w : World} {K : PySem.W.Frag} {elts : List Expr} {kk : Nat} {tpos : Pos} {z TI TO i1 i2 : Addr} {x y : Str} {t1 t2 : Tok} (D : ZipSep2 z TI TO i1 i2 [i1] [i2]) :
    Turn P w K (.Tuple elts kk tpos) (ItzS x y) [z, TI, TO, i1, i2] z (fun i h => IsZip h z TI TO .none ∧ IsTupOf2 h TI (.ref i1) (.ref i2) ∧ (∃ u v, IsTupOf2 h TO u v) ∧ h.IsStrIter i1 (strIterType x) x t1 i ∧ h.IsStrIter i2 (strIterType y) y t2 i) where
  mem := by simp
  obj := fun i h st c hc => by
    obtain ⟨za, zb, ⟨_, _, zc⟩, ⟨p1, k1, _, l1⟩, ⟨p2, k2, _, l2⟩⟩ := st
    simp only [List.mem_cons, List.not_mem_nil, or_false] at hc
    rcases hc with rfl | rfl | rfl | rfl | rfl
    · exact ⟨_, za, fun _ u => nomatch u⟩
    · exact ⟨_, zb, fun _ u => nomatch u⟩
    · exact ⟨_, zc, fun _ u => nomatch u⟩
    · exact ⟨p1, k1, fun _ u => by rw [l1] at u; cases u⟩
    · exact ⟨p2, k2, fun _ u => by rw [l2] at u; cases u⟩
  keep := fun i h h' st k => by
    obtain ⟨hz, hTI, ⟨x, y, hTO⟩, ⟨o1, e1, r1⟩, ⟨o2, e2, r2⟩⟩ := st
    exact ⟨k z (by simp) _ hz, k TI (by simp) _ hTI, ⟨x, y, k TO (by simp) _ hTO⟩, ⟨o1, k i1 (by simp) _ e1, r1⟩, ⟨o2, k i2 (by simp) _ e2, r2⟩⟩
  item := by
    intro X hP hw hK hc i pins s σ H E I hf st hg
    subst hP hw hK
    obtain ⟨hz, hTI, ⟨x0, y0, hTO⟩, h1, h2⟩ := st
    have hd : X.A.in1.handled = none := I.ok.hd hc
    have hzl : z < s.heap.objs.size := Heap.lt_size hz
    refine wpAny_pyNext_zipD2_item D (Draws.text hd i1 x t1) (Draws.text hd i2 y t2) hz hTI hTO h1 h2 hg.1 hg.2 fun u1 u2 h' tk p1 p2 z' TO' h1' h2' hT hsz hk => ?_
    obtain ⟨c1, w1, hc1, rfl⟩ := p1
    obtain ⟨c2, w2, hc2, rfl⟩ := p2
    refine ⟨_, rfl, wpAny_letOwnedTupleGo_zip (s := { s with heap := h', toks := tk }) z' fun h'' z'' sb => ?_⟩
    have hT2 : h''.get? s.heap.objs.size = some { cls := .type "tuple", data := .seq #[.str ⟨#[c1]⟩ w1, .str ⟨#[c2]⟩ w2] } := (sb.2 _ (Nat.ne_of_gt hzl)).trans hT
    have new : ObjOk X.prog X.w (upd H s.heap.objs.size (.tup [.str ⟨#[c1]⟩, .str ⟨#[c2]⟩])) h'' s.heap.objs.size (.tup [.str ⟨#[c1]⟩, .str ⟨#[c2]⟩]) :=
      ⟨by show 2 ≤ sizeLine; decide, [.str ⟨#[c1]⟩ w1, .str ⟨#[c2]⟩ w2], .cons ⟨w1, rfl⟩ (.cons ⟨w2, rfl⟩ .nil), ⟨_, hT2, rfl, _, rfl⟩⟩
    have I1 : Inv X pins σ (upd H s.heap.objs.size (.tup [.str ⟨#[c1]⟩, .str ⟨#[c2]⟩])) { s with heap := h'', toks := tk } :=
      I.turnedNew (t' := tk) (ch := [z, TI, TO, i1, i2]) (fun c o hb q => (sb.2 c (fun q' => hb (by simp [q']))).trans (hk c o (fun q' => hb (by simp [q'])) (fun q' => hb (by simp [q'])) (fun q' => hb (by simp [q'])) (fun q' => hb (by simp [q'])) q)) hf (Nat.le_refl _) new
    refine ⟨.ref s.heap.objs.size, _, I1, rfl, ⟨_, c1, c2, rfl, I.hok.fresh (Nat.le_refl _), rfl, hc1, hc2⟩, ⟨z'', ?_, ⟨.str ⟨#[c1]⟩ w1, .str ⟨#[c2]⟩ w2, ?_⟩, ?_, ?_⟩, fun c hcm => ?_⟩
    · exact (sb.2 _ D.TIz).trans (hk _ _ D.TIz D.TITO D.TIi1 D.TIi2 hTI)
    · exact (sb.2 _ D.TOz).trans TO'
    · obtain ⟨o, e, r⟩ := h1'
      exact ⟨o, (sb.2 _ D.zi1.symm).trans e, r⟩
    · obtain ⟨o, e, r⟩ := h2'
      exact ⟨o, (sb.2 _ D.zi2.symm).trans e, r⟩
    · have hlt : c < s.heap.objs.size := by
        simp only [List.mem_cons, List.not_mem_nil, or_false] at hcm
        obtain ⟨_, k1, _⟩ := h1
        obtain ⟨_, k2, _⟩ := h2
        rcases hcm with rfl | rfl | rfl | rfl | rfl <;> exact Heap.lt_size (by assumption)
      rw [upd_ne (Nat.ne_of_lt hlt)]
      exact (hf c hcm).1
  done := by
    intro X hP hw hK hc i pins s σ H E I hf st hg
    subst hP hw hK
    obtain ⟨hz, hTI, ⟨x0, y0, hTO⟩, h1, h2⟩ := st
    have hd : X.A.in1.handled = none := I.ok.hd hc
    exact wpAny_pyNext_zipD2_end D (Draws.text hd i1 x t1) (Draws.text hd i2 y t2) hz hTI hTO h1 h2 hg.1 hg.2.1 hg.2.2 fun h' tk hk => ⟨rfl, I.turnedL (t' := tk) (ch := [z, TI, TO, i1, i2]) (fun c o hb q =>
      hk c o (fun q' => hb (by simp [q'])) (fun q' => hb (by simp [q'])) (fun q' => hb (by simp [q'])) (fun q' => hb (by simp [q'])) q) hf⟩
  self := fun A i s Q E st h => wpAny_pyIter_zip st.1 h
def tZipS (ta : L2.TA) : L2.TI := fun σ H R => ta σ H fun vs H1 => ∃ x y, vs = [.str x, .str y] ∧ R (ItzS x y) H1
theorem pi_zipS {X : Cx} {e e2 : Expr} {ta : L2.TA} {p pos tpos : Pos} {elts : List Expr} {kk : Nat} (hg : Gl X "zip") (hm : X.mg "zip" = none) (ha : PA X [e, e2] ta)
    (hs : starEach [e, e2] X.env = (false, eval e X.env) :: starEach [e2] X.env := by rfl) (hpl : (backTo pos (starEach [e2] X.env)).any (·.1) = false := by rfl) :
    PI X (.Tuple elts kk tpos) (.Call (.Name "zip" p) [e, e2] [] pos) (tZipS ta) := by
  refine ⟨fun pins s σ H R I h => ?_⟩
  refine Call_ (ld_blt I hg hm PyProof.Rows.boot_zip (PyProof.Rows.callWith_type1 (thn (ha.run pos pins s σ H _ I h) fun us s1 ⟨vs, H1, I1, r1, q1⟩ => ?_) hs hpl))
  obtain ⟨x, y, ex, q1⟩ := q1
  subst ex
  cases r1 with
  | cons r rr =>
    cases rr with
    | cons r' rr =>
      cases rr
      obtain ⟨t1, rfl⟩ := r
      obtain ⟨t2, rfl⟩ := r'
      refine zip_begins2 (begins_text x t1) (begins_text y t2) trivial trivial fun h' hz hTI hTO h1 h2 hsz hk => wpAny_pyIter_zip hz ?_
      have fresh5 : ∀ c, c ∈ [s1.heap.objs.size + 4, s1.heap.objs.size + 2, s1.heap.objs.size + 3, s1.heap.objs.size, s1.heap.objs.size + 1] → FpOk X pins H1 c := fun c hcm => by
        have big : ∀ m : Nat, s1.heap.objs.size ≤ s1.heap.objs.size + m := fun m => Nat.le_add_right _ m
        simp only [List.mem_cons, List.not_mem_nil, or_false] at hcm
        have low : s1.heap.objs.size ≤ c := by
          rcases hcm with rfl | rfl | rfl | rfl | rfl
          · exact big 4
          · exact big 2
          · exact big 3
          · exact big 0
          · exact big 1
        exact I1.fpOk low (I1.hok.fresh low)
      have I2 : Inv X pins σ H1 { s1 with heap := h' } := I1.kept (t' := s1.toks) hk
      exact ⟨s1.heap.objs.size + 4, [s1.heap.objs.size + 4, s1.heap.objs.size + 2, s1.heap.objs.size + 3, s1.heap.objs.size, s1.heap.objs.size + 1], _, _, H1, rfl, I2,
        turn_zipS (zip_sep2 (N := s1.heap.objs.size) (fp1 := []) (fp2 := []) (by simp) (by simp)), ⟨hz, hTI, ⟨_, _, hTO⟩, ⟨_, h1, rfl, rfl⟩, ⟨_, h2, rfl, rfl⟩⟩, fresh5, q1⟩
theorem walk_zipS {x y : Str} {n : Nat} (hn : n = min x.cps.size y.cps.size) : Walk (ItzS x y) n (fun _ => True) (YPair (fun i => (x.cps[i]?).map fun c => .str ⟨#[c]⟩) (fun i => (y.cps[i]?).map fun c => .str ⟨#[c]⟩)) := by
  subst hn
  refine ⟨fun i _ hi q => ⟨by omega, by omega⟩, fun _ q => ⟨by omega, by omega, by omega⟩, fun i H v H' _ q y => ?_⟩
  obtain ⟨A, c, d, h1, h2, h3, h4, h5⟩ := y
  exact ⟨A, .str ⟨#[c]⟩, .str ⟨#[d]⟩, h1, h2, h3, by simp [h4], by simp [h5]⟩
section
variable {X : Cx} {T : Tx} {W : WX} {a b e tg : Expr} {ts : List Q.TE} {pos : Pos}
theorem gi_or {f g : List D → Option (List D)} (h1 : GI X T W tg e (sN f ts)) (h2 : GI X T W tg e (sN g ts)) : GI X T W tg e (sN (iOr f g) ts) := PI.imp (PI.or h1 h2) fun σ H R ⟨s, S, ω, rl, rs, q⟩ => by
  cases e0 : eArgs ts s S with
  | ok xs S1 =>
    cases e1 : f xs with
    | some ds =>
      have : sN (iOr f g) ts s S = sN f ts s S := by simp only [sN, iOr, e0, e1, Res.bind]
      exact .inl ⟨s, S, ω, rl, rs, by rw [← this]; exact q⟩
    | none =>
      have : sN (iOr f g) ts s S = sN g ts s S := by simp only [sN, iOr, e0, e1, Res.bind]
      exact .inr ⟨s, S, ω, rl, rs, by rw [← this]; exact q⟩
  | ex x S1 =>
    have : sN (iOr f g) ts s S = sN f ts s S := by simp [sN, e0, Res.bind]
    exact .inl ⟨s, S, ω, rl, rs, by rw [← this]; exact q⟩
  | err =>
    have : sN (iOr f g) ts s S = sN f ts s S := by simp [sN, e0, Res.bind]
    exact .inl ⟨s, S, ω, rl, rs, by rw [← this]; exact q⟩
theorem gi_zipS {p tpos : Pos} {elts : List Expr} {kk : Nat} (hg : Gl X "zip") (hm : X.mg "zip" = none) (ha : GA X T W [a, b] ts)
    (hs : starEach [a, b] X.env = (false, eval a X.env) :: starEach [b] X.env := by rfl) (hpl : (backTo pos (starEach [b] X.env)).any (·.1) = false := by rfl) :
    GI X T W (.Tuple elts kk tpos) (.Call (.Name "zip" p) [a, b] [] pos) (sN iZipS ts) :=
  gi_N (p := fun vs H1 R => ∃ x y, vs = [.str x, .str y] ∧ R (ItzS x y) H1) (pi_zipS hg hm ha hs hpl) (by
    intro ω S H xs us R ds rl r e k
    unfold Q.iZipS at e
    split at e
    · rename_i x y
      cases e
      obtain ⟨v, w, rfl, r1, r2⟩ := r.two
      have e1 := r1.str
      have e2 := r2.str
      subst e1 e2
      refine ⟨x, y, rfl, k _ (gives_pair (ds := chs x) (es := chs y) (n := min x.cps.size y.cps.size) rfl (by simp [chs]) (walk_zipS rfl) (fun _ _ => trivial) ?_ ?_)⟩
      · intro i d v hd hv
        simp only [chs, List.getElem?_map, Array.getElem?_toList] at hd
        cases e : x.cps[i]? with
        | none => rw [e] at hd; cases hd
        | some c => rw [e] at hd hv; cases hd; cases hv; exact Rp.mstr _
      · intro i d v hd hv
        simp only [chs, List.getElem?_map, Array.getElem?_toList] at hd
        cases e : y.cps[i]? with
        | none => rw [e] at hd; cases hd
        | some c => rw [e] at hd hv; cases hd; cases hv; exact Rp.mstr _
    · cases e)
theorem gi_zip {p tpos : Pos} {elts : List Expr} {kk : Nat} (hg : Gl X "zip") (hm : X.mg "zip" = none) (ha : GA X T W [a, b] ts)
    (hs : starEach [a, b] X.env = (false, eval a X.env) :: starEach [b] X.env := by rfl) (hpl : (backTo pos (starEach [b] X.env)).any (·.1) = false := by rfl) :
    GI X T W (.Tuple elts kk tpos) (.Call (.Name "zip" p) [a, b] [] pos) (sN iZip ts) := gi_or (gi_zipA hg hm ha hs hpl) (gi_zipS hg hm ha hs hpl)
end
def IteS (x : Str) : It :=
  ⟨fun i _ => i < x.cps.size, fun i H v H' => ∃ T c, v = .ref T ∧ H T = none ∧ H' = upd H T (.tup [.int (i : Nat), .str ⟨#[c]⟩]) ∧ x.cps[i]? = some c, fun i _ => i = x.cps.size⟩
theorem turn_enumS {P : Program} {w : World} {K : PySem.W.Frag} {elts : List Expr} {kk : Nat} {tpos : Pos} (e it : Addr) (x : Str) (t : Tok) :
    Turn P w K (.Tuple elts kk tpos) (IteS x) [e, it] e (fun i h => (∃ old, IsEnum h e it ((i : Nat) : Int) old) ∧ h.IsStrIter it (strIterType x) x t i ∧ e ≠ it) where
  mem := by simp
  obj := fun i h st b hb => by
    obtain ⟨⟨_, he⟩, ⟨p, k1, _, l1⟩, _⟩ := st
    simp only [List.mem_cons, List.not_mem_nil, or_false] at hb
    rcases hb with rfl | rfl
    · exact ⟨_, he, fun _ u => nomatch u⟩
    · exact ⟨p, k1, fun _ u => by rw [l1] at u; cases u⟩
  keep := fun i h h' st k => let ⟨⟨old, he⟩, ⟨o, ho, r⟩, hne⟩ := st; ⟨⟨old, k e (by simp) _ he⟩, ⟨o, k it (by simp) o ho, r⟩, hne⟩
  item := by
    intro X hP hw hK hc i pins s σ H E I hf st hg
    subst hP hw hK
    obtain ⟨⟨old, he⟩, hit, hne⟩ := st
    have hd : X.A.in1.handled = none := I.ok.hd hc
    have hel : e < s.heap.objs.size := Heap.lt_size he
    have hil : it < s.heap.objs.size := by obtain ⟨_, q, _⟩ := hit; exact Heap.lt_size q
    refine wpAny_pyNext_enum_itemC (Draws.text hd it x t) he hit hg hne (by simpa using hne) fun u h' tk hp ho hit' hT hsz hk => ?_
    obtain ⟨c, w1, hcx, rfl⟩ := hp
    refine ⟨_, rfl, wpAny_letOwnedTupleGo_enum (s := { s with heap := h', toks := tk + 1 }) ho fun h'' he' sb => ?_⟩
    have hT2 : h''.get? s.heap.objs.size = some { cls := .type "tuple", data := .seq #[.int i tk, .str ⟨#[c]⟩ w1] } := (sb.2 _ (Nat.ne_of_gt hel)).trans hT
    have new : ObjOk X.prog X.w (upd H s.heap.objs.size (.tup [.int (i : Nat), .str ⟨#[c]⟩])) h'' s.heap.objs.size (.tup [.int (i : Nat), .str ⟨#[c]⟩]) :=
      ⟨by show 2 ≤ sizeLine; decide, [.int i tk, .str ⟨#[c]⟩ w1], .cons ⟨_, rfl⟩ (.cons ⟨w1, rfl⟩ .nil), ⟨_, hT2, rfl, _, rfl⟩⟩
    have I1 : Inv X pins σ (upd H s.heap.objs.size (.tup [.int (i : Nat), .str ⟨#[c]⟩])) { s with heap := h'', toks := tk + 1 } :=
      I.turnedNew (ch := [e, it]) (fun b ob hb q => (sb.2 b (fun z => hb (by simp [z]))).trans (hk b ob (fun z => hb (by simp [z])) (fun z => hb (by simp [z])) q)) hf (Nat.le_refl _) new
    refine ⟨.ref s.heap.objs.size, _, I1, rfl, ⟨_, c, rfl, I.hok.fresh (Nat.le_refl _), rfl, hcx⟩, ⟨⟨.str ⟨#[c]⟩ w1, ?_⟩, ?_, hne⟩, fun b hb => ?_⟩
    · have e1 : ((i + 1 : Nat) : Int) = (i : Int) + 1 := by omega
      rw [e1]
      exact he'
    · obtain ⟨o, ho2, r⟩ := hit'
      exact ⟨o, (sb.2 it (Ne.symm hne)).trans ho2, r⟩
    · have hlt : b < s.heap.objs.size := by
        simp only [List.mem_cons, List.not_mem_nil, or_false] at hb
        rcases hb with rfl | rfl <;> assumption
      rw [upd_ne (Nat.ne_of_lt hlt)]
      exact (hf b hb).1
  done := by
    intro X hP hw hK hc i pins s σ H E I hf st hg
    subst hP hw hK
    obtain ⟨⟨old, he⟩, hit, hne⟩ := st
    have hd : X.A.in1.handled = none := I.ok.hd hc
    have hg' : i = x.cps.size := hg
    subst hg'
    exact wpAny_pyNext_enum_endD (Draws.text hd it x t) he hit fun h' hx => ⟨rfl, I.turnedL (t' := s.toks) (ch := [e, it]) (fun b o hb q => hx b o (fun z => hb (by simp [z])) q) hf⟩
  self := fun A i s Q E st h => let ⟨⟨_, he⟩, _⟩ := st; wpAny_pyIter_enum he h
def tEnumS (ta : L2.TA) : L2.TI := fun σ H R => ta σ H fun vs H1 => ∃ x, vs = [.str x] ∧ R (IteS x) H1
theorem pi_enumS {X : Cx} {e : Expr} {ta : L2.TA} {p pos tpos : Pos} {elts : List Expr} {kk : Nat} (hg : Gl X "enumerate") (hm : X.mg "enumerate" = none) (ha : PA X [e] ta) (hs : starEach [e] X.env = [(false, eval e X.env)] := by rfl) :
    PI X (.Tuple elts kk tpos) (.Call (.Name "enumerate" p) [e] [] pos) (tEnumS ta) := by
  refine ⟨fun pins s σ H R I h => ?_⟩
  refine Call_ (ld_blt I hg hm boot_enumerate (PyProof.Rows.callWith_type1 (thn (ha.run pos pins s σ H _ I h) fun us s1 ⟨vs, H1, I1, r1, q1⟩ => ?_) hs rfl))
  obtain ⟨x, ex, q1⟩ := q1
  subst ex
  cases r1 with
  | cons r rr =>
    cases rr
    obtain ⟨t1, rfl⟩ := r
    refine call_enumerate_str fun h' he hi hsz hk => wpAny_pyIter_enum he ?_
    have fresh2 : ∀ c, c ∈ [s1.heap.objs.size + 1, s1.heap.objs.size] → FpOk X pins H1 c := fun c hcm => by
      simp only [List.mem_cons, List.not_mem_nil, or_false] at hcm
      have low : s1.heap.objs.size ≤ c := by
        rcases hcm with rfl | rfl
        · exact Nat.le_add_right _ 1
        · exact Nat.le_refl _
      exact I1.fpOk low (I1.hok.fresh low)
    have I2 : Inv X pins σ H1 { s1 with heap := h' } := I1.kept (t' := s1.toks) hk
    exact ⟨s1.heap.objs.size + 1, [s1.heap.objs.size + 1, s1.heap.objs.size], _, _, H1, rfl, I2, turn_enumS _ _ x t1, ⟨⟨_, he⟩, hi, show (s1.heap.objs.size + 1 : Nat) ≠ s1.heap.objs.size by omega⟩, fresh2, q1⟩
theorem walk_enumS {x : Str} : Walk (IteS x) x.cps.size (fun _ => True) (YPair (fun i => some (.int (i : Nat))) (fun i => (x.cps[i]?).map fun c => .str ⟨#[c]⟩)) := by
  refine ⟨fun i _ hi q => hi, fun _ q => rfl, fun i H v H' _ q y => ?_⟩
  obtain ⟨A, c, h1, h2, h3, h4⟩ := y
  exact ⟨A, .int (i : Nat), .str ⟨#[c]⟩, h1, h2, h3, rfl, by simp [h4]⟩
section
variable {X : Cx} {T : Tx} {W : WX} {a : Expr} {ts : List Q.TE} {pos : Pos}
theorem gi_enumS {p tpos : Pos} {elts : List Expr} {kk : Nat} (hg : Gl X "enumerate") (hm : X.mg "enumerate" = none) (ha : GA X T W [a] ts) (hs : starEach [a] X.env = [(false, eval a X.env)] := by rfl) :
    GI X T W (.Tuple elts kk tpos) (.Call (.Name "enumerate" p) [a] [] pos) (sN iEnumS ts) :=
  gi_N (p := fun vs H1 R => ∃ x, vs = [.str x] ∧ R (IteS x) H1) (pi_enumS hg hm ha hs) (by
    intro ω S H xs us R ds rl r e k
    unfold Q.iEnumS at e
    split at e
    · rename_i x
      cases e
      obtain ⟨v, rfl, r1⟩ := r.one
      have e1 := r1.str
      subst e1
      refine ⟨x, rfl, k _ (gives_pair (ds := (List.range x.cps.size).map fun (i : Nat) => .int (i : Nat)) (es := chs x) (n := x.cps.size) rfl (by simp [chs]) walk_enumS (fun _ _ => trivial) ?_ ?_)⟩
      · intro i d v hd hv
        cases hv
        rw [List.getElem?_map] at hd
        cases e : (List.range x.cps.size)[i]? with
        | none => rw [e] at hd; cases hd
        | some j =>
          rw [e] at hd
          cases hd
          obtain ⟨h1, h2⟩ := List.getElem?_eq_some_iff.mp e
          rw [List.getElem_range] at h2
          subst h2
          exact Rp.mint _
      · intro i d v hd hv
        simp only [chs, List.getElem?_map, Array.getElem?_toList] at hd
        cases e : x.cps[i]? with
        | none => rw [e] at hd; cases hd
        | some c => rw [e] at hd hv; cases hd; cases hv; exact Rp.mstr _
    · cases e)
theorem gi_enum {p tpos : Pos} {elts : List Expr} {kk : Nat} (hg : Gl X "enumerate") (hm : X.mg "enumerate" = none) (ha : GA X T W [a] ts) (hs : starEach [a] X.env = [(false, eval a X.env)] := by rfl) :
    GI X T W (.Tuple elts kk tpos) (.Call (.Name "enumerate" p) [a] [] pos) (sN iEnum ts) := gi_or (gi_enumL hg hm ha hs) (gi_enumS hg hm ha hs)
end
end Q
set_option maxHeartbeats 1000000
namespace Q
open PySem PySem.Spec PyProof.Rows L2
abbrev VEt : List Value := [.type "ValueError", .type "Exception", .type "BaseException", .type "object"]
structure EC (K : PySem.W.Frag) (mg : Str → Option Value) (x : Str) (C : Addr) : Prop where
  g : mg x = some (.ref C)
  kp : PySem.W.keepIn K (.ref C) = true
  exc : PySem.W.excIn K C VEt "ValueError.__new__" = true
  sub : PySem.W.subIn K (.ref C) (.type "BaseException") = some true
  ty : PySem.W.typeIn K (.ref C) = some (.type "type")
section
variable {X : Cx} {T : Tx} {W : WX} {p pos : Pos} {x : Str} {C : Addr} {c : Nat}
theorem pmk_own0 (F : EC X.K X.mg x C) (hg : Gl X x) (hdb : (x == ("__debug__" : Str)) = false := by decide) : PMk X (.Call (.Name x p) [] [] pos) (fun _ H Q => Q (.ref C) none H) := by
  intro pins s σ H Q I h
  refine wpAny_Call_Name_kw (ld_glob I hg F.g ?_ hdb)
  refine PySem.W.callWith_K0 I.kIn F.kp ?_
  obtain ⟨bm, N, nm, qn, bs, hdct, sn, sub, ab, col, dd, k0, k1, k2, k3, k5, mN, hC, hN, hni, T⟩ := exc_obj I.kIn F.exc
  exact wpAny_call_exc_subT _root_.PySem.F.excBase_ValueError T hC hN hni (fun h' e hm => mk_of I hm (raises_own F.sub F.ty) h (I.hok.gone hm.new)) (Nat.zero_le _)
theorem gs_raise0 {pos' : Pos} (F : EC X.K X.mg x (T.cl c)) (hc : X.calm = true) (tk : Takes X W) (hg : Gl X x) (hdb : (x == ("__debug__" : Str)) = false := by decide) : GS X T W (.Raise (some (.Call (.Name x p) [] [] pos)) none pos') (tRaise c) :=
  PS.imp (ps_raise hc tk (pmk_own0 F hg hdb)) fun D σ H ⟨s, S, ω, rl, rs, q⟩ => q ω σ H (.ref (T.cl c)) none Ext.refl rl rs ⟨rfl, rfl⟩
def Wall (n : Nat) (W : WX) : WX := fun cls d _ H => ∀ σ : L2.St, σ.length = n → W cls d σ H
theorem takes_all {X : Cx} {W : WX} (t : Takes X W) : Takes X (Wall X.N.length W) := fun u s' ⟨a, B, sI, pins, σ, H, cls, d, e, I, nb, up, sky, na, os, ag, w⟩ =>
  t u s' ⟨a, B, sI, pins, σ, H, cls, d, e, I, nb, up, sky, na, os, ag, w σ I.len⟩
def Indep (W : WX) : Prop := ∀ cls d (σ1 σ2 : L2.St) H, W cls d σ1 H → W cls d σ2 H
theorem wall_indep {n : Nat} {W : WX} : Indep (Wall n W) := fun _ _ _ _ _ h => h
inductive HdsQ (X : Cx) (T : Tx) : List ExceptHandler → List (Nat × TSt) → Prop
  | nil : HdsQ X T [] []
  | cons {x : Str} {c : Nat} {t : TSt} {b₀ : Stmt} {suite : List Stmt} {np pos' : Pos} {hds : List ExceptHandler} {l : List (Nat × TSt)} (hc : Names X x (.ref (T.cl c)))
      (hsu : ∀ (a : Addr) (oe : Obj) (pn : List (Addr × Obj)), GSs (X.suite a ((a, oe) :: pn)) T Wn (b₀ :: suite) t) (r : HdsQ X T hds l) :
      HdsQ X T (.ExceptHandler (some (.Name x np)) none (b₀ :: suite) pos' :: hds) ((c, t) :: l)
def hdsTS (K : PySem.W.Frag) (T : Tx) (hs : List (Nat × TSt)) : List (Value × (Addr → Value → Option Addr → L2.TS)) := hs.map fun q => (.ref (T.cl q.1), fun _ _ _ => tSr K T Wn q.2)
theorem HdsQ.ok {hds : List ExceptHandler} {hs : List (Nat × TSt)} (h : HdsQ X T hds hs) : HdsOk X hds (hdsTS X.K T hs) := by
  induction h with
  | nil => exact .nil
  | cons hc hsu r ih => exact .cons hc (fun a oe cls d pn _ _ => hsu a oe pn) ih
theorem SPg.noEx {K : PySem.W.Frag} {D : Ends} {ω : Wd} {S : Store} {H : Hp} {r : RS} (h : SPg K T W D ω S H (Q.noEx r)) : SPg K T Wn D ω S H r := by
  cases r with
  | none => exact h
  | some p =>
    obtain ⟨f, S'⟩ := p
    cases f <;> first | exact h | exact (show False from h).elim
theorem Rs.none {K : PySem.W.Frag} {T : Tb} {ω : Wd} {n : Nat} {σ : L2.St} (h : σ.length = n) : Rs K T ω (List.replicate n none) σ := by
  refine ⟨by rw [List.length_replicate, h], fun i d z => ?_⟩
  rw [List.getElem?_replicate] at z
  split at z <;> cases z
theorem gs_tryF {n : Nat} {cs : List Nat} {body : List Stmt} {h₀ : ExceptHandler} {hds : List ExceptHandler} {tb : TSt} {hs : List (Nat × TSt)} (hst : X.stack = X.env :: X.outer) (hf : X.env.frame = some X.env.locals) (tk : Takes X W) (hn : X.N.length = n)
    (hx : ∀ c ∈ cs, ∀ q ∈ hs, PySem.W.exmOne X.K (.ref (T.cl c)) (.ref (T.cl q.1)) = some (isSub c q.1))
    (hb : ∀ (W' : WX) (pn : List (Addr × Obj)) (xe : Value → Shared → Prop), Indep W' → Takes (X.tr pn xe) W' → GSs (X.tr pn xe) T W' body tb) (hh : HdsQ X T (h₀ :: hds) hs) :
    GS X T W (.Try body (h₀ :: hds) [] [] pos) (tTryF n cs tb hs) :=
  PS.imp (ps_try_many hst hf tk (tb := fun W' => tSr X.K T (Wall n W') tb) (fun W' pn xe tk' _ => hb (Wall n W') pn xe wall_indep (hn ▸ takes_all tk')) hh.ok) fun D σ H ⟨s, S, ω, rl, rs, q⟩ => by
    refine ⟨s, S, ω, rl, rs, ?_⟩
    unfold tTryF at q
    cases e : tb s S with
    | none => rw [e] at q; exact q
    | some r =>
      obtain ⟨f, S'⟩ := r
      rw [e] at q
      cases f with
      | nx s1 => exact q
      | ret d => exact q
      | bk s1 => exact q
      | ct s1 => exact q
      | ex x s1 =>
        simp only at q
        by_cases hc : x.cls ∈ cs
        · rw [if_pos hc] at q
          intro ω' σ' H' cls dd ex rl' rs' er σ2 hl
          have go : ∀ (l : List (Nat × TSt)), (∀ q ∈ l, q ∈ hs) → (match hFind x.cls l with
              | some t => SPg X.K T W D ω S H (Q.noEx (t (List.replicate n Option.none) S'))
              | none => False) → wMany X.K W D (hdsTS X.K T l) cls dd σ2 H' := by
            intro l
            induction l with
            | nil => intro _ z; exact z.elim
            | cons q0 l ih =>
              intro hm z
              obtain ⟨d0, t0⟩ := q0
              refine ⟨isSub x.cls d0, by rw [er.1]; exact hx _ hc (d0, t0) (hm _ List.mem_cons_self), fun hb a _ => ?_, fun hb => ?_⟩
              · unfold hFind at z
                rw [if_pos hb] at z
                exact ⟨_, S', ω', rl', Rs.none hl, SPg.shift ex (SPg.noEx z)⟩
              · unfold hFind at z
                rw [if_neg (by rw [hb]; decide)] at z
                exact ih (fun q hq => hm q (List.mem_cons_of_mem _ hq)) z
          refine go hs (fun _ h => h) ?_
          cases hF : hFind x.cls hs with
          | none => rw [hF] at q; exact q
          | some t => rw [hF] at q; exact q
        · rw [if_neg hc] at q; exact q.elim
end
section
variable {K : PySem.W.Frag} {T T' : Tb} {ω : Wd}
mutual
theorem Rp.tb (hc : T'.cl = T.cl) (hf : ∀ i, i ≠ 0 → T'.fa i = T.fa i) : ∀ (d : D) (v : V), d.flat = true → Rp K T ω d v → Rp K T' ω d v
  | .non, v, _, h => h
  | .bl b, v, _, h => h
  | .int i, v, _, h => h
  | .str x, v, _, h => h
  | .tup ds, v, f, h => by
    unfold Rp at h ⊢
    obtain ⟨a, vs, e, q, r⟩ := h
    exact ⟨a, vs, e, q, Rps.tb hc hf ds vs f r⟩
  | .lst ds, v, f, h => by
    unfold Rp at h ⊢
    obtain ⟨a, vs, e, q, r⟩ := h
    exact ⟨a, vs, e, q, Rps.tb hc hf ds vs f r⟩
  | .ins C fs, v, f, h => by
    unfold Rp at h ⊢
    obtain ⟨a, dx, gs, e, q, r⟩ := h
    exact ⟨a, dx, gs, e, by rw [hc]; exact q, Rpf.tb hc hf fs gs f r⟩
  | .dct fs, v, f, h => by
    unfold Rp at h ⊢
    obtain ⟨a, gs, e, q, r⟩ := h
    exact ⟨a, gs, e, q, Rpk.tb hc hf fs gs f r⟩
  | .ptr k, v, f, h => by cases f
  | .obj k, v, f, h => by unfold Rp at h ⊢; exact h
  | .src ns, v, f, h => by unfold Rp at h ⊢; exact h
  | .fn id, v, f, h => by
    unfold Rp at h ⊢
    have hid : id ≠ 0 := by simpa [D.flat] using f
    rw [hf id hid]
    exact h
  | .exc c args, v, f, h => by cases f
theorem Rps.tb (hc : T'.cl = T.cl) (hf : ∀ i, i ≠ 0 → T'.fa i = T.fa i) : ∀ (ds : List D) (vs : List V), flats ds = true → Rps K T ω ds vs → Rps K T' ω ds vs
  | [], vs, _, h => h
  | d :: ds, vs, f, h => by
    unfold Rps at h ⊢
    obtain ⟨v, ws, e, q, r⟩ := h
    unfold flats at f
    rw [Bool.and_eq_true] at f
    exact ⟨v, ws, e, Rp.tb hc hf d v f.1 q, Rps.tb hc hf ds ws f.2 r⟩
theorem Rpf.tb (hc : T'.cl = T.cl) (hf : ∀ i, i ≠ 0 → T'.fa i = T.fa i) : ∀ (fs : List (Str × D)) (gs : List (Str × V)), flatf fs = true → Rpf K T ω fs gs → Rpf K T' ω fs gs
  | [], gs, _, h => h
  | (g, d) :: fs, gs, f, h => by
    unfold Rpf at h ⊢
    obtain ⟨v, hs, e, q, r⟩ := h
    unfold flatf at f
    rw [Bool.and_eq_true] at f
    exact ⟨v, hs, e, Rp.tb hc hf d v f.1 q, Rpf.tb hc hf fs hs f.2 r⟩
theorem Rpk.tb (hc : T'.cl = T.cl) (hf : ∀ i, i ≠ 0 → T'.fa i = T.fa i) : ∀ (fs : List (Key × D)) (gs : List (Key × V)), flatk fs = true → Rpk K T ω fs gs → Rpk K T' ω fs gs
  | [], gs, _, h => h
  | (g, d) :: fs, gs, f, h => by
    unfold Rpk at h ⊢
    obtain ⟨v, hs, e, q, r⟩ := h
    unfold flatk at f
    rw [Bool.and_eq_true] at f
    exact ⟨v, hs, e, Rp.tb hc hf d v f.1 q, Rpk.tb hc hf fs hs f.2 r⟩
end
theorem Rl.tb {S : Store} {H : Hp} (hc : T'.cl = T.cl) (hf : ∀ i, i ≠ 0 → T'.fa i = T.fa i) (ht : T'.tabs = T.tabs) (rl : Rl K T ω S H) (hp : Pins T'.pin ω H) : Rl K T' ω S H :=
  ⟨⟨rl.sub, rl.len, fun k ds h => let ⟨a1, a2, vs, a3, a4⟩ := rl.obj k ds h; ⟨a1, a2, vs, a3, Rps.tb hc hf ds vs a2 a4⟩, rl.inj, rl.lenO,
    fun k C fs h => let ⟨a1, a2, dx, gs, a3, a4⟩ := rl.objO k C fs h; ⟨a1, a2, dx, gs, by rw [hc]; exact a3, Rpf.tb hc hf fs gs a2 a4⟩, rl.injO, rl.nt, by rw [ht]; exact rl.tab⟩, hp⟩
end
def Tl (T : Tx) (f : Addr) (pn : Wd × Addr × Str) : Tx := { T with fa := fun i => if i = 0 then f else T.fa i, pin := pn :: T.pin }
section
variable {K : PySem.W.Frag} {T : Tx} {ω : Wd} {f : Addr} {pn : Wd × Addr × Str} {S : Store} {H : Hp}
theorem tl_fa (i : Nat) (h : i ≠ 0) : (Tl T f pn).fa i = T.fa i := if_neg h
theorem Rl.into (rl : Rl K T.toTb ω S H) (h : Later pn.1 ω ∧ H pn.2.1 = some (LamX.CodeO pn.2.1 pn.2.2)) : Rl K (Tl T f pn).toTb ω S H :=
  Rl.tb (T := T.toTb) (T' := (Tl T f pn).toTb) rfl (fun i => tl_fa i) rfl rl fun p hp => by
    rcases List.mem_cons.mp hp with rfl | hp
    · exact h
    · exact rl.pinned p hp
theorem Rl.outof (rl : Rl K (Tl T f pn).toTb ω S H) : Rl K T.toTb ω S H :=
  Rl.tb (T := (Tl T f pn).toTb) (T' := T.toTb) rfl (fun i h => (tl_fa i h).symm) rfl rl fun p hp => rl.pinned p (List.mem_cons_of_mem _ hp)
theorem Rl.pnd (rl : Rl K (Tl T f pn).toTb ω S H) : Later pn.1 ω ∧ H pn.2.1 = some (LamX.CodeO pn.2.1 pn.2.2) := rl.pinned pn List.mem_cons_self
theorem Rp.into {d : D} {v : V} (h : d.flat = true) (r : Rp K T.toTb ω d v) : Rp K (Tl T f pn).toTb ω d v := Rp.tb (T := T.toTb) (T' := (Tl T f pn).toTb) rfl (fun i => tl_fa i) d v h r
theorem Rp.outof {d : D} {v : V} (h : d.flat = true) (r : Rp K (Tl T f pn).toTb ω d v) : Rp K T.toTb ω d v := Rp.tb (T := (Tl T f pn).toTb) (T' := T.toTb) rfl (fun i h => (tl_fa i h).symm) d v h r
theorem ExR.into {e : Ex} {cls : Value} {dd : Option Addr} (h : flats e.args = true) (r : ExR K T ω e cls dd) : ExR K (Tl T f pn) ω e cls dd := by
  obtain ⟨r1, r2⟩ := r
  refine ⟨r1, ?_⟩
  cases ea : e.args with
  | nil => rw [ea] at r2; exact r2
  | cons x xs =>
    cases xs with
    | cons y ys => rw [ea] at r2; exact r2
    | nil =>
      rw [ea] at r2 h
      obtain ⟨d, v, e1, e2, e3⟩ := r2
      have hx : x.flat = true := by
        unfold flats at h
        rw [Bool.and_eq_true] at h
        exact h.1
      exact ⟨d, v, e1, e2, Rp.into hx e3⟩
end
section
variable {X : Cx} {T : Tx} {W : WX}
theorem ge_act {Z : Cx} {K : PySem.W.Frag} (hK : Z.K = K) {a q : Str} {f c' : Addr} {p1 p2 : Pos} {ω0 : Wd} {s0 : Sl} {σ : L2.St} {te : Q.TE} (hW : Indep W) (rs0 : Rs K T.toTb ω0 s0 σ)
    (act : ∀ E : XK, (∀ cls d σ' H', E cls d H' → W cls d σ' H') → PE Z (.Call (.Name a p1) [] [] p2) (fun σZ HZ Qv => σZ[0]? = some (some (.ref f)) ∧ HZ c' = some (LamX.CodeO c' q) ∧ tEr K T (fun cls dd _ H => E cls dd H) te σ HZ Qv)) :
    GE Z (Tl T f (ω0, c', q)) W (.Call (.Name a p1) [] [] p2) (eAct 0 fun S => flatR (te s0 S)) := by
  subst hK
  refine PE.imp (act (fun cls d H' => W cls d [] H') fun cls d σ' H' h => hW _ _ _ _ _ h) ?_
  rintro σZ HZ Qv ⟨sZ, SZ, ωZ, rl, rs, ep⟩
  unfold eAct at ep
  cases hs : sZ[0]? with
  | none => rw [hs] at ep; exact ep.elim
  | some o =>
    rw [hs] at ep
    cases o with
    | none => exact ep.elim
    | some d =>
      cases d with
      | fn id =>
        cases id with
        | succ n => exact ep.elim
        | zero =>
          obtain ⟨v, h1, h2⟩ := rs.2 0 _ hs
          have h2' : v = .ref f := by unfold Rp at h2; exact h2
          subst h2'
          obtain ⟨lt, hc⟩ := rl.pnd
          refine ⟨h1, hc, s0, SZ, ωZ, rl.outof, ⟨rs0.1, fun i d z => let ⟨v, e1, r⟩ := rs0.2 i d z; ⟨v, e1, r.late lt⟩⟩, ?_⟩
          have pe : ∀ {ω' S' H'}, Ext ωZ SZ HZ ω' S' H' → Rl Z.K T.toTb ω' S' H' → Rl Z.K (Tl T f (ω0, c', q)).toTb ω' S' H' := fun {ω' S' H'} ex rl' => rl'.into (pin_ext rl ex rl'.sub (ω0, c', q) List.mem_cons_self)
          have ep' : EPg Z.K (Tl T f (ω0, c', q)) (Rp Z.K (Tl T f (ω0, c', q)).toTb) W σZ ωZ SZ HZ (flatR (te s0 SZ)) Qv := ep
          cases e : te s0 SZ with
          | err => rw [e] at ep'; exact ep'
          | ok d S' =>
            rw [e] at ep'
            unfold flatR at ep'
            simp only at ep'
            by_cases hf : d.flat = true
            · rw [if_pos hf] at ep'
              exact fun ω' H' v ex rl' r => ep' ω' H' v ex (pe ex rl') (r.into hf)
            · rw [if_neg hf] at ep'; exact ep'.elim
          | ex x S' =>
            rw [e] at ep'
            unfold flatR at ep'
            simp only at ep'
            by_cases hf : flats x.args = true
            · rw [if_pos hf] at ep'
              exact fun ω' H' cls dd ex rl' r => hW _ _ _ _ _ (ep' ω' H' cls dd ex (pe ex rl') (r.into hf))
            · rw [if_neg hf] at ep'; exact ep'.elim
      | _ => exact ep.elim
theorem ge_told {n k : Nat} {x a : Str} {g c P : Addr} {fd : FuncData} {pg : Arguments} {bg : List Stmt} {sg : Scope} {Ng : List Str} {params : Arguments} {body : Expr} {scope : Scope} {p lpos pos : Pos} {b : (Store → Res D) → TSt} {te : Q.TE}
    (F : FunD X.K x x pg bg sg [] [] g fd) (hg : Gl X x) (hm : X.mg x = some (.ref g)) (hbd : L2.Binds X.K fd [a] []) (Sg : FnScope Ng [a] sg) (hNg : Ng[0]? = some a) (hva : Vis sg a) (hn : Ng.length = n + 1)
    (hbody : ∀ (cdg : Value) (f : Addr) (pn : Wd × Addr × Str) (s : Shared) (H : Hp) (th : Store → Res D),
      (∀ (W : WX) (pn' : List (Addr × Obj)) (xe : Value → Shared → Prop) (p1 p2 : Pos), Indep W → Takes ((cxOf C8.CX0 X.prog X.w X.K X.mg X.base Ng x sg g cdg X.A X.stack s H C8.E0).tr pn' xe) W →
        GE ((cxOf C8.CX0 X.prog X.w X.K X.mg X.base Ng x sg g cdg X.A X.stack s H C8.E0).tr pn' xe) (Tl T f pn) W (.Call (.Name a p1) [] [] p2) (eAct 0 th)) →
      GSs (cxOf C8.CX0 X.prog X.w X.K X.mg X.base Ng x sg g cdg X.A X.stack s H C8.E0).nox (Tl T f pn) Wn bg (b th))
    (TB : LamX.TabB X.base X.mg c P) (hcode : X.env.code = .ref c) (hmT : (P, X.env.qual ++ "<lambda>") ∈ T.tabs) (hu : ∀ p ∈ T.tabs, p.1 = P → p.2 = X.env.qual ++ "<lambda>") (hr : Room (k + 2) X.A) (L : LamX.LamS X.env.scope scope) (hdef : defaultsOf params X.env = ([], []))
    (hbind : ∀ (q : Str) (cl : List (Str × Addr)) (pm cv ctv : Value), bindArgs (PySem.W.kla_fn "<lambda>" q params body scope cl pm cv ctv) ⟨[], []⟩ = pure [])
    (hte : ∀ (A : Around) (outer : List Env) (s : Shared) (H : Hp) (E : XK) (f c' : Addr), Room k (A.deeper (LamX.lamEnv X scope s.heap.objs.size f c')) → GE (LamX.lamCx X A outer s H E scope f c') T (fun cls dd _ H => E cls dd H) body te)
    (hdb : (x == ("__debug__" : Str)) = false := by decide) (hd : (a == ("__debug__" : Str)) = false := by decide) (hcd : (a == ("__classdict__" : Str)) = false := by decide) :
    GE X T W (.Call (.Name x p) [.Lambda params body scope lpos] [] pos) (eTold true n b te) := by
  obtain ⟨oc, od, dV, kV, doc, pm, an, cdv, ct, osl, rfl, lk, hcg, _, _⟩ := F.ex
  refine PE.imp (LamX.pe_lamcall (T := T.tabs) (t := fun E => tEr X.K T (fun cls dd _ H => E cls dd H) te)
    (TT := fun tl H Qv => ∃ s S ω σ, Rl X.K T.toTb ω S H ∧ Rs X.K T.toTb ω s σ ∧ (tl = fun E H' Q' => tEr X.K T (fun cls dd _ H => E cls dd H) te σ H' Q') ∧ EPg X.K T (Rp X.K T.toTb) Wn [] ω S H (eTold true n b te s S) Qv)
    hg hm F.kp lk hcg hbd Sg hNg hva ?_ TB hcode hmT hu hr L hdef hbind hte hdb hd hcd) ?_
  · intro f c' s0 H Qv tl act hc ⟨s, S, ω, σ, rl, rs, htl, q⟩
    subst htl
    refine ⟨_, hbody cdv f (ω, c', X.env.qual ++ "<lambda>") s0 H (fun S1 => flatR (te s S1)) (fun W pn' xe p1 p2 hW tk => ge_act (Z := (cxOf C8.CX0 X.prog X.w X.K X.mg X.base Ng x sg g cdv X.A X.stack s0 H C8.E0).tr pn' xe) (K := X.K) rfl hW rs fun E hE => act W pn' xe E p1 p2 tk hE), ?_⟩
    refine ⟨some (.fn 0) :: List.replicate n none, S, ω, rl.into ⟨Later.refl, hc⟩, ⟨?_, fun i d z => ?_⟩, ?_⟩
    · show (some (D.fn 0) :: List.replicate n none).length = _
      have e1 : (L2.start Ng [V.ref f]).length = Ng.length := by simp [L2.start]; omega
      rw [e1, hn]
      simp
    · cases i with
      | zero =>
        cases z
        refine ⟨.ref f, ?_, by unfold Rp; rfl⟩
        simp [L2.start]
      | succ i =>
        rw [List.getElem?_cons_succ, List.getElem?_replicate] at z
        split at z <;> cases z
    · unfold eTold at q
      rw [if_pos rfl] at q
      cases e : b (fun S1 => flatR (te s S1)) (some (.fn 0) :: List.replicate n none) S with
      | none => rw [e] at q; exact q
      | some r =>
        obtain ⟨fl, S'⟩ := r
        rw [e] at q
        cases fl with
        | nx s1 => exact fun ω' σ' H' ex rl' _ => q ω' H' .non ex rl'.outof (by unfold Rp; rfl)
        | bk s1 => exact q.elim
        | ct s1 => exact q.elim
        | ex y s1 => exact q.elim
        | ret d =>
          simp only at q
          by_cases hf : d.flat = true
          · rw [if_pos hf] at q
            exact fun ω' H' v ex rl' r => q ω' H' v ex rl'.outof (r.outof hf)
          · rw [if_neg hf] at q; exact q.elim
  · rintro σ H Qv ⟨s, S, ω, rl, rs, q⟩
    refine ⟨rl.tab, fun H1 eN t1 => ?_⟩
    obtain ⟨ex, rl1⟩ := rl.extN eN t1
    refine ⟨s, S, ω, σ, rl1, rs.ext ex, rfl, ?_⟩
    have q2 := EPg.shift ex q
    cases e : eTold true n b te s S with
    | ok d S' => rw [e] at q2; exact q2
    | err => rw [e] at q2; exact q2
    | ex y S' =>
      exfalso
      unfold eTold at e
      rw [if_pos rfl] at e
      split at e
      · split at e <;> cases e
      · cases e
      · cases e
end
section
variable {X : Cx} {T : Tx} {W : WX} {e : Expr} {es : List Expr} {ts : List Q.TE} {pos : Pos}
theorem ge_fnB {k j id : Nat} {Pr : Prog} {f : Addr} {ps : List Str} {x : Str} {p : Pos} (hk : k = j + 2) (hP : Pr (id + 1000000) = none) (F : FnO X.prog X.w X.K X.mg X.base T Pr j id x f ps) (hr : Room j X.A) (tk : Takes X W) (hg : Gl X x) (ha : GA X T W (e :: es) ts)
    (hdb : (x == ("__debug__" : Str)) = false := by decide) (he : starEach (e :: es) X.env = (false, eval e X.env) :: starEach es X.env := by rfl) (hpl : (backTo pos (starEach es X.env)).any (·.1) = false := by rfl) :
    GE X T W (.Call (.Name x p) (e :: es) [] pos) (eCall (callN Pr k) (id + 1000000) ts) := by
  subst hk
  have e1 : eCall (callN Pr (j + 2)) (id + 1000000) ts = eCall (callN Pr j) id ts := by
    funext s S
    unfold eCall
    congr 1
    funext xs S1
    exact callN_low hP
  rw [e1]
  exact ge_fn F hr tk hg ha hdb he hpl
theorem ge_err : GE X T W e (fun _ _ => .err) := PE.imp (t := fun _ _ _ => False) ⟨fun pins s σ H Qv I h => h.elim⟩ fun σ H Qv ⟨s, S, ω, rl, rs, q⟩ => q
theorem ge_toldC {k n : Nat} {Pr : Prog} {b : (Store → Res D) → TSt} {te : Q.TE} (h0 : Pr 999999 = none) (h : ∀ j, k = j + 2 → GE X T W e (eTold true n b te)) : GE X T W e (eTold (deep (callN Pr k)) n b te) := by
  have ez : eTold false n b te = fun _ _ => Res.err := by
    funext s S
    rfl
  match k, h with
  | 0, _ => rw [deep_zero, ez]; exact ge_err
  | 1, _ => rw [deep_one h0, ez]; exact ge_err
  | j + 2, h => rw [deep_low h0]; exact h j rfl
end
theorem srt_uniq {ns ms : List Int} (p : ms.Perm ns) (o : ms.Pairwise (· ≤ ·)) : ms = srt ns := by
  have h1 : (srt ns).Perm ns := List.mergeSort_perm ns _
  have h2 : (srt ns).Pairwise (· ≤ ·) := by
    have := List.pairwise_mergeSort (le := fun a b : Int => decide (a ≤ b)) (fun a b c h1 h2 => by simp at *; omega) (fun a b => by simp; omega) ns
    exact this.imp fun h => by simpa using h
  exact List.Perm.eq_of_pairwise (le := (· ≤ ·)) (fun a b _ _ h1 h2 => Int.le_antisymm h1 h2) o h2 (p.trans h1.symm)
theorem rising_ok : ∀ (r : List Str) (p : Str), risingS p r = true → (p :: r).Pairwise fun a b => a.cps.toList ≤ b.cps.toList
  | [], p, _ => by simp
  | x :: r, p, h => by
    have h' : (!Spec.ltCps x.cps.toList p.cps.toList && risingS x r) = true := h
    rw [Bool.and_eq_true, ltCps_eq] at h'
    obtain ⟨h1, h2⟩ := h'
    have h3 : p.cps.toList ≤ x.cps.toList := by
      rw [Bool.not_eq_true', decide_eq_false_iff_not] at h1
      exact List.not_lt.mp h1
    have ih := rising_ok r x h2
    refine List.Pairwise.cons (fun y hy => ?_) ih
    rcases List.mem_cons.mp hy with rfl | hy
    · exact h3
    · exact List.le_trans h3 ((List.pairwise_cons.mp ih).1 y hy)
theorem sortedS_ok : ∀ (r : List Str), sortedS r = true → r.Pairwise fun a b => a.cps.toList ≤ b.cps.toList
  | [], _ => by simp
  | x :: r, h => rising_ok r x h
theorem str_of_cps {a b : Str} (h : a.cps.toList = b.cps.toList) : a = b := by
  cases a
  cases b
  congr 1
  exact Array.toList_inj.mp h
theorem srtS_sorted (ns : List Str) : (srtS ns).Pairwise fun a b => a.cps.toList ≤ b.cps.toList := by
  have := List.pairwise_mergeSort (le := fun a b : Str => decide (a.cps.toList ≤ b.cps.toList)) (fun a b c h1 h2 => by
    simp only [decide_eq_true_eq] at *
    exact List.le_trans h1 h2) (fun a b => by
    simp only [Bool.or_eq_true, decide_eq_true_eq]
    exact List.le_total _ _) ns
  exact this.imp fun h => by simpa using h
theorem srtS_uniq {ns ms : List Str} (p : ms.Perm ns) (o : ms.Pairwise fun a b => a.cps.toList ≤ b.cps.toList) : ms = srtS ns := by
  have h1 : (srtS ns).Perm ns := List.mergeSort_perm ns _
  exact List.Perm.eq_of_pairwise (le := fun a b : Str => a.cps.toList ≤ b.cps.toList) (fun a b _ _ h1 h2 => str_of_cps (List.le_antisymm h1 h2)) o (srtS_sorted ns) (p.trans h1.symm)
def rSortA (K : PySem.W.Frag) : List V → Hp → VK → Prop := fun vs H Qv => rSortedI K vs H Qv ∨ rSortedS K vs H Qv
theorem cr_sortA {X : Cx} : CallR X (.builtin "sorted") (rSortA X.K) := cr_sortedI.or cr_sortedS
theorem Rps.of_strs {K : PySem.W.Frag} {T : Tb} {ω : Wd} (ns : List Str) : Rps K T ω (ns.map D.str) (ns.map V.str) := by
  induction ns with
  | nil => exact Rps.nil
  | cons i ns ih => exact Rps.cons (Rp.mstr _) ih
theorem ok_sortedI {K : PySem.W.Frag} {T : Tx} : OkN K T (rSortA K) oSortedI := by
  intro ω S H xs us Qv rl r q
  unfold oSortedI at q
  split at q
  · obtain ⟨v, rfl, r1⟩ := r.one
    split at q
    · rename_i ds hds
      obtain ⟨p, vs, rfl, h1, r2⟩ := Rp.itemsL rl r1 hds
      split at q
      · rename_i e he
        unfold sortD at he
        split at he
        · rename_i ns hns
          cases he
          have e := r2.ints hns
          subst e
          refine .inl ⟨_, _, rfl, SqL.of h1, fun ns' p hp ho hn => ?_⟩
          rw [srt_uniq hp ho]
          exact q.newLst rl (Rps.of_ints _) p hn
        · split at he
          · rename_i ss hss
            split at he
            · rename_i h64
              cases he
              have e := r2.strs hss
              subst e
              refine .inr ⟨_, _, rfl, SqL.of h1, h64, fun ys p hp ho hn => ?_⟩
              rw [srtS_uniq hp (sortedS_ok _ ho)]
              exact q.newLst rl (Rps.of_strs _) p hn
            · cases he
          · cases he
      · exact q.elim
    · exact q.elim
  · exact q.elim
end Q
set_option maxHeartbeats 1000000
namespace Q
open PySem PySem.Spec PyProof.Rows L2
section
variable {K : PySem.W.Frag} {T : Tb} {ω : Wd}
theorem flat_rel {d : D} {v : V} (h : flatD d = true) (r : Rp K T ω d v) : flatV v = true ∧ ∀ (e : D) (w : V), flatD e = true → Rp K T ω e w → eqV v w = eqF d e := by
  cases d <;> try (cases h; done)
  all_goals
    unfold Rp at r
    subst r
    refine ⟨rfl, fun e w he re => ?_⟩
    cases e <;> try (cases he; done)
    all_goals
      unfold Rp at re
      subst re
      rfl
theorem flats_rel : ∀ {ds : List D} {vs : List V}, ds.all flatD = true → Rps K T ω ds vs → vs.all flatV = true ∧ ∀ (e : D) (w : V), flatD e = true → Rp K T ω e w → (vs.any fun y => eqV y w) = ds.any fun z => eqF z e
  | [], vs, _, r => by
    unfold Rps at r
    subst r
    exact ⟨rfl, fun _ _ _ _ => rfl⟩
  | d :: ds, vs, h, r => by
    unfold Rps at r
    obtain ⟨v, ws, rfl, r1, r2⟩ := r
    simp only [List.all_cons, Bool.and_eq_true] at h
    obtain ⟨h1, h2⟩ := h
    obtain ⟨a1, a2⟩ := flat_rel h1 r1
    obtain ⟨b1, b2⟩ := flats_rel h2 r2
    exact ⟨by simp only [List.all_cons, Bool.and_eq_true]; exact ⟨a1, b1⟩, fun e w he re => by simp only [List.any_cons]; rw [a2 e w he re, b2 e w he re]⟩
theorem signOf_eq {d : D} {c : Nat} (h : signOf d = some c) : d = .str ⟨#[c]⟩ := by
  unfold signOf at h
  split at h
  · rename_i z
    split at h
    · rename_i c' e
      cases h
      congr 1
      cases z with
      | mk a =>
        have : a = #[c] := by
          apply Array.toList_inj.mp
          exact e
        rw [this]
    · cases h
  · cases h
end
section
variable {X : Cx} {T : Tx} {W : WX} {a b c e : Expr} {es : List Expr} {ta tb tc : Q.TE} {ts : List Q.TE} {pos : Pos}
def rInA (K : PySem.W.Frag) (g : Bool → Bool) : R2 := fun x y H Qv => (∃ (c : Nat) (z : Str), x = .str ⟨#[c]⟩ ∧ y = .str z ∧ Qv (.bl (g (decide (c ∈ z.cps.toList)))) H) ∨ ∃ p xs, y = .ref p ∧ (SqL K H p xs ∨ SqT K H p xs) ∧ flatV x = true ∧ xs.all flatV = true ∧ Qv (.bl (g (inV x xs))) H
theorem or_in : OpR X (compareOp .In) (rInA X.K id) := op_in_sign.or op_in_seq
theorem or_nin : OpR X (compareOp .NotIn) (rInA X.K Bool.not) := op_notIn_sign.or op_notIn_seq
theorem inD_ok {K : PySem.W.Frag} {g : Bool → Bool} {ω : Wd} {S : Store} {H : Hp} {x y : D} {u v : V} {k : Bool} {Qv : VK} (rl : Rl K T.toTb ω S H) (rx : Rp K T.toTb ω x u) (ry : Rp K T.toTb ω y v) (h : inD S x y = some k) (q : Qv (.bl (g k)) H) : rInA K g u v H Qv := by
  unfold inD at h
  split at h
  · split at h
    · rename_i z c hc
      cases h
      rw [signOf_eq hc] at rx
      rw [rx.str, ry.str]
      exact .inl ⟨_, _, rfl, rfl, q⟩
    · cases h
  · split at h
    · rename_i xs hx
      split at h
      · rename_i hf
        rw [Bool.and_eq_true] at hf
        cases h
        obtain ⟨p, vs, rfl, h1, r1⟩ := Rp.itemsLT rl ry hx
        obtain ⟨f1, f2⟩ := flats_rel hf.2 r1
        refine .inr ⟨p, vs, rfl, h1, (flat_rel hf.1 rx).1, f1, ?_⟩
        have e : inV u vs = xs.any fun z => eqF z x := f2 x u hf.1 rx
        rw [e]
        exact q
      · cases h
    · cases h
theorem ok_in {K : PySem.W.Frag} : Ok2 K T (rInA K id) oIn := by
  intro ω S H x y u v Qv rl rx ry q
  unfold oIn at q
  split at q
  · exact inD_ok rl rx ry ‹_› (q.now rl (Rp.mbl _))
  · exact q.elim
theorem ok_nin {K : PySem.W.Frag} : Ok2 K T (rInA K Bool.not) oNin := by
  intro ω S H x y u v Qv rl rx ry q
  unfold oNin at q
  split at q
  · exact inD_ok rl rx ry ‹_› (q.now rl (Rp.mbl _))
  · exact q.elim
theorem ge_isB {k : Bool} {j pos'} (ha : GE X T W a ta) : GE X T W (.Compare a [.Is] [.Constant (.bool k) j pos'] pos) (e1 (oIsB k) ta) := PE.imp (pe_cmpR op_isBl ha pe_bl rfl) fun σ H Qv ⟨s, S, ω, rl, rs, q⟩ => by
  refine ⟨s, S, ω, rl, rs, (EPg.bind q).mono ?_⟩
  rintro v H1 ⟨ω1, S1, d, e1, rl1, r1, q1⟩
  cases d <;> try exact q1.elim
  exact ⟨_, _, r1.bl, rfl, (PQ.of q1).now rl1 (Rp.mbl _)⟩
theorem gt_isB {k : Bool} {j pos'} (ha : GE X T W a ta) : GT X T W (.Compare a [.Is] [.Constant (.bool k) j pos'] pos) (e1 (oIsB k) ta) := PT.imp (pt_cmpR op_isBl ha pe_bl rfl) (by
  refine tTest_ok (X := X) (T := T) (W := W) fun σ H Qv ⟨s, S, ω, rl, rs, q⟩ => ?_
  refine ⟨s, S, ω, rl, rs, (EPg.bind q).mono ?_⟩
  rintro v H1 ⟨ω1, S1, d, e1, rl1, r1, q1⟩
  cases d <;> try exact q1.elim
  exact ⟨_, _, r1.bl, rfl, (PQ.of q1).now rl1 (Rp.mbl _)⟩)
theorem maxI_mem : ∀ {ns : List Int}, 0 < ns.length → maxI ns ∈ ns ∧ ∀ y ∈ ns, y ≤ maxI ns
  | [], h => by simp at h
  | [x], _ => by simp [maxI]
  | x :: y :: r, _ => by
    obtain ⟨h1, h2⟩ := maxI_mem (ns := y :: r) (by simp)
    have e : maxI (x :: y :: r) = max x (maxI (y :: r)) := rfl
    rw [e]
    refine ⟨?_, fun z hz => ?_⟩
    · by_cases h : x ≤ maxI (y :: r)
      · rw [Int.max_eq_right h]; exact List.mem_cons_of_mem _ h1
      · rw [Int.max_eq_left (by omega)]; exact List.mem_cons_self
    · rcases List.mem_cons.mp hz with rfl | hz
      · omega
      · have := h2 z hz
        omega
theorem minI_mem : ∀ {ns : List Int}, 0 < ns.length → minI ns ∈ ns ∧ ∀ y ∈ ns, minI ns ≤ y
  | [], h => by simp at h
  | [x], _ => by simp [minI]
  | x :: y :: r, _ => by
    obtain ⟨h1, h2⟩ := minI_mem (ns := y :: r) (by simp)
    have e : minI (x :: y :: r) = min x (minI (y :: r)) := rfl
    rw [e]
    refine ⟨?_, fun z hz => ?_⟩
    · by_cases h : x ≤ minI (y :: r)
      · rw [Int.min_eq_left h]; exact List.mem_cons_self
      · rw [Int.min_eq_right (by omega)]; exact List.mem_cons_of_mem _ h1
    · rcases List.mem_cons.mp hz with rfl | hz
      · omega
      · have := h2 z hz
        omega
theorem intsL_ok {K : PySem.W.Frag} {ω : Wd} {S : Store} {H : Hp} {d : D} {ns : List Int} {v : V} (rl : Rl K T.toTb ω S H) (r : Rp K T.toTb ω d v) (h : intsL S d = some ns) : ∃ a, v = .ref a ∧ SqL K H a (ns.map V.int) := by
  unfold intsL at h
  split at h
  · obtain ⟨a, vs, rfl, h1, r1⟩ := Rp.itemsL rl r ‹_›
    have e := r1.ints h
    subst e
    exact ⟨a, rfl, SqL.of h1⟩
  · cases h
theorem ok_maxL {K : PySem.W.Frag} : OkN K T (rMax K) oMaxL := by
  intro ω S H xs us Qv rl r q
  unfold oMaxL at q
  split at q
  · obtain ⟨v, rfl, r1⟩ := r.one
    split at q
    · rename_i ns hn
      split at q
      · rename_i hl
        obtain ⟨a, rfl, hs⟩ := intsL_ok rl r1 hn
        refine ⟨a, ns, rfl, hs, hl, fun m hm hy => ?_⟩
        obtain ⟨h1, h2⟩ := maxI_mem hl
        have e : m = maxI ns := Int.le_antisymm (h2 m hm) (hy _ h1)
        rw [e]
        exact q.now rl (Rp.mint _)
      · exact q.elim
    · exact q.elim
  · exact q.elim
theorem ok_minL {K : PySem.W.Frag} : OkN K T (rMin K) oMinL := by
  intro ω S H xs us Qv rl r q
  unfold oMinL at q
  split at q
  · obtain ⟨v, rfl, r1⟩ := r.one
    split at q
    · rename_i ns hn
      split at q
      · rename_i hl
        obtain ⟨a, rfl, hs⟩ := intsL_ok rl r1 hn
        refine ⟨a, ns, rfl, hs, hl, fun m hm hy => ?_⟩
        obtain ⟨h1, h2⟩ := minI_mem hl
        have e : m = minI ns := Int.le_antisymm (hy _ h1) (h2 m hm)
        rw [e]
        exact q.now rl (Rp.mint _)
      · exact q.elim
    · exact q.elim
  · exact q.elim
theorem ok_sum {K : PySem.W.Frag} : OkN K T (rSum K) oSum := by
  intro ω S H xs us Qv rl r q
  unfold oSum at q
  split at q
  · obtain ⟨v, rfl, r1⟩ := r.one
    split at q
    · obtain ⟨a, rfl, hs⟩ := intsL_ok rl r1 ‹_›
      exact ⟨a, _, rfl, hs, q.now rl (Rp.mint _)⟩
    · exact q.elim
  · exact q.elim
theorem ok_any {K : PySem.W.Frag} : OkN K T (rAny K) oAny := by
  intro ω S H xs us Qv rl r q
  unfold oAny at q
  split at q
  · obtain ⟨v, rfl, r1⟩ := r.one
    split at q
    · obtain ⟨p, vs, rfl, h1, r2⟩ := Rp.lst rl r1
      have e := r2.bls ‹_›
      subst e
      exact ⟨_, _, rfl, SqL.of h1, q.now rl (Rp.mbl _)⟩
    · exact q.elim
  · exact q.elim
theorem ok_count {K : PySem.W.Frag} : OkN K T (fun xs H Qv => ∃ x ys, xs = x :: ys ∧ (fun x xs H Qv => ∃ a b, x = .str a ∧ xs = [.str b] ∧ Qv (.int (Txt.count a b)) H) x ys H Qv) oCount := by
  intro ω S H xs us Qv rl r q
  unfold oCount at q
  split at q
  · obtain ⟨v, w, rfl, r1, r2⟩ := r.two
    exact ⟨_, _, rfl, _, _, r1.str, by rw [r2.str], q.now rl (Rp.mint _)⟩
  · exact q.elim
theorem ge_count {apos : Pos} (ho : GE X T W a ta) (he : GE X T W b tb) (hs : starEach [b] X.env = [(false, eval b X.env)] := by rfl) (hbase : attributeBase a "count" X.env (eval a X.env) = eval a X.env := by rfl) (hline : (apos.endLine == pos.line) = true := by rfl) :
    GE X T W (.Call (.Attribute a "count" apos) [b] [] pos) (eM isStrD oCount ta [tb]) := ge_mstr F.slot_str_count F.type_str_count mt_count ok_count ho he hs hbase hline
def rStrA : List V → Hp → VK → Prop := fun xs H Qv => (∃ i, xs = [.int i] ∧ i.natAbs.log2 < 1920 ∧ Qv (.str (toString i)) H) ∨ ∃ a, xs = [.str a] ∧ Qv (.str a) H
theorem cr_strOf : CallR X (.type "str") rStrA := call_str_int.or SkE.call_str_str
theorem ok_strOf {K : PySem.W.Frag} : OkN K T rStrA oStrOf := by
  intro ω S H xs us Qv rl r q
  unfold oStrOf at q
  split at q
  · obtain ⟨v, rfl, r1⟩ := r.one
    rw [r1.int]
    split at q
    · exact .inl ⟨_, rfl, ‹_›, q.now rl (Rp.mstr _)⟩
    · exact q.elim
  · obtain ⟨v, rfl, r1⟩ := r.one
    rw [r1.str]
    exact .inr ⟨_, rfl, q.now rl (Rp.mstr _)⟩
  · exact q.elim
theorem ok_extend {K : PySem.W.Frag} : OkN K T (fun xs H Qv => ∃ x ys, xs = x :: ys ∧ rExtend x ys H Qv) oExtend := by
  intro ω S H xs us Qv rl r q
  unfold oExtend at q
  split at q
  · obtain ⟨v, w, rfl, r1, r2⟩ := r.two
    split at q
    · rename_i k es _ ds g
      split at q
      · rename_i hc
        rw [Bool.and_eq_true] at hc
        obtain ⟨p, vs, rfl, rfl, h1, r3⟩ := Rp.ptr rl r1 g
        obtain ⟨p2, ws, rfl, h2, r4⟩ := Rp.lst rl r2
        have hf := (rl.obj k ds g).2.1
        have z := rl.put (es := ds ++ es) g (by rw [flats_app, hf]; simp [hc.2]) (r3.append r4)
        exact ⟨_, _, rfl, _, _, _, _, rfl, rfl, h1, h2, by rw [← r3.length, ← r4.length]; exact of_decide_eq_true hc.1, q ω _ _ z.1 z.2 Rp.mnon⟩
      · exact q.elim
    · exact q.elim
  · exact q.elim
def tRevS (te : L2.TE) : L2.TE := fun σ H Qv => te σ H fun x H1 => ∃ z, x = .str z ∧ z.length ≤ sizeLine ∧ Qv (.str ⟨z.cps.toList.reverse.toArray⟩) H1
theorem rev_eq (z : Str) (u : Tok) : (⟨z.cps.toList.reverse.toArray⟩ : Str) = Txt.sliceBy z none none (-1, u) := by
  refine str_ext_getD ?_ fun i hi => ?_
  · rw [step_rev_len]; simp [Str.length]
  · have hi' : i < z.length := by simpa [Str.length] using hi
    rw [step_rev_getD z u i hi']
    have h2 : i < z.cps.size := hi'
    have h3 : z.length - 1 - i < z.cps.size := by unfold Str.length at *; omega
    simp only [Array.getD, List.size_toArray, List.length_reverse, Array.length_toList, h2, h3, dite_true]
    simp [Str.length]
theorem pe_revS {e : Expr} {te : L2.TE} {k : Nat} {p1 p2 p3 pos : Pos} (he : PE X e te) : PE X (.Subscript e (.Slice none none (some (.UnaryOp .USub (.Constant (.int 1) k p1) p2)) p3) pos) (tRevS te) := by
  refine ⟨fun pins s σ H Q I h => ?_⟩
  refine Subscript_ (thn (he.run pins s σ H _ I h) fun v s1 ⟨x, H1, I1, r1, q1⟩ => ?_)
  obtain ⟨z, ex, hz, q⟩ := q1
  subst ex
  obtain ⟨t, rfl⟩ := r1
  have hst : PO X (some (.UnaryOp .USub (.Constant (.int 1) k p1) p2)) (tPart (tUn (rU fun i => .int (-i)) (tC (.int 1)))) := po_some (pe_un un_neg pe_int)
  refine wpAny_Slice (thn (po_none.run pins s1 σ H1 (fun o H2 => o = none ∧ H2 = H1) I1 ⟨rfl, rfl⟩) fun vl s2 ⟨l, H2, I2, pl, el, e2⟩ => ?_)
  subst el e2
  refine thn (po_none.run pins s2 σ H2 (fun o H3 => o = none ∧ H3 = H2) I2 ⟨rfl, rfl⟩) fun vu s3 ⟨u, H3, I3, pu, eu, e3⟩ => ?_
  subst eu e3
  refine thn (hst.run pins s3 σ H3 (fun o H4 => o = some (-1) ∧ H4 = H3) I3 ⟨1, rfl, -1, rfl, rfl, rfl⟩) fun vs s4 ⟨o, H4, I4, ps, eo, e4⟩ => ?_
  subst eo e4
  have I5 : Inv X pins σ H4 { s4 with heap := s4.heap.push { cls := .type "slice", data := .fields #[vl, vu, vs] } } := I4.kept (t' := s4.toks) fun b ob q => Heap.get?_push_of_some _ q
  obtain ⟨l', hl', el'⟩ := IsPart.raw pl
  obtain ⟨u', hu', eu'⟩ := IsPart.raw pu
  obtain ⟨st', hs', es'⟩ := IsPart.raw ps
  show wpAny (model X.prog X.w) X.A (subscriptTail e (.Slice none none (some (.UnaryOp .USub (.Constant (.int 1) k p1) p2)) p3) (.str z t) (.ref s4.heap.objs.size)) (EP X pins σ Q) X.xe { s4 with heap := s4.heap.push { cls := .type "slice", data := .fields #[vl, vu, vs] } }
  refine tail_any (ops := [.str z t, .ref s4.heap.objs.size]) (typeIs_str _ _ _) (PySem.F.slot_str_getitem.lookup) ?_ (by with_unfolding_all rfl)
  obtain ⟨uu, rfl⟩ : ∃ uu, st' = some (-1, uu) := by
    cases st' with
    | none => cases es'
    | some p => obtain ⟨i, uu⟩ := p; cases es'; exact ⟨uu, rfl⟩
  have el0 : l' = none := by cases l' with
    | none => rfl
    | some p => cases el'
  have eu0 : u' = none := by cases u' with
    | none => rfl
    | some p => cases eu'
  subst el0 eu0 hl' hu' hs'
  refine wpAny_getItem_str_slice (l := none) (u := none) (st := some (-1, uu)) (Heap.IsSliceOf.new _ _ _ _) rfl ?_
  have hl : (Txt.sliceBy z none none (-1, uu)).length ≤ sizeLine := by rw [step_rev_len]; exact hz
  have q2 : Q (.str (Txt.sliceBy z none none (-1, uu))) H4 := by rw [← rev_eq]; exact q
  exact ⟨hl, .str _, H4, I5.tok _, ⟨_, rfl⟩, q2⟩
theorem ge_rev {k : Nat} {p1 p2 p3 : Pos} (ha : GE X T W a ta) : GE X T W (.Subscript a (.Slice none none (some (.UnaryOp .USub (.Constant (.int 1) k p1) p2)) p3) pos) (e1 oRev ta) := by
  refine ⟨fun pins s σ H Qv I h => ?_⟩
  obtain ⟨s0, S, ω, rl, rs, q⟩ := h
  have two : tRevS (tEr X.K T W ta) σ H Qv ∨ tRevL X.K (tEr X.K T W ta) σ H Qv := by
    cases e0 : ta s0 S with
    | err => simp only [e1, e0, Res.bind] at q; exact q.elim
    | ex x S1 =>
      simp only [e1, e0, Res.bind] at q
      exact .inl ⟨s0, S, ω, rl, rs, by rw [e0]; exact q⟩
    | ok d S1 =>
      simp only [e1, e0, Res.bind] at q
      cases d with
      | str z =>
        refine .inl ⟨s0, S, ω, rl, rs, ?_⟩
        rw [e0]
        intro ω' H' v ex rl' r
        have q1 := PQ.of (EPg.shift ex q)
        unfold oRev at q1
        simp only at q1
        split at q1
        · exact ⟨z, r.str, ‹_›, q1.now rl' (Rp.mstr _)⟩
        · exact q1.elim
      | _ =>
        refine .inr ⟨s0, S, ω, rl, rs, ?_⟩
        rw [e0]
        intro ω' H' v ex rl' r
        have q1 := PQ.of (EPg.shift ex q)
        unfold oRev at q1
        simp only at q1
        split at q1
        · obtain ⟨p, vs, rfl, h1, r1⟩ := Rp.itemsL rl' r ‹_›
          refine ⟨p, vs, rfl, SqL.of h1, q1.newLst rl' ?_⟩
          refine Rps.of_get (by simp [r1.length]) fun i d v hd hv => ?_
          have hi : i < vs.length := by
            have := (List.getElem?_eq_some_iff.mp hv).1
            simpa using this
          rw [List.getElem?_reverse (by rw [r1.length]; exact hi)] at hd
          rw [List.getElem?_reverse hi] at hv
          obtain ⟨w, hw, rw'⟩ := r1.get hd
          rw [r1.length, hv] at hw
          cases hw
          exact rw'
        · exact q1.elim
  rcases two with z | z
  · exact (pe_revS ha).run pins s σ H Qv I z
  · exact (pe_revL ha).run pins s σ H Qv I z
def GDs (X : Cx) (T : Tx) (W : WX) (pos : Pos) (ks : List (Option Expr)) (vs : List Expr) (ts : List Q.TE) : Prop := ∃ trs, PPs X pos ks vs trs ∧ ks.all (·.isSome) = true ∧ ks.length = vs.length ∧ ∀ σ H R, (∃ s S ω, Rl X.K T.toTb ω S H ∧ Rs X.K T.toTb ω s σ ∧
  EPg X.K T (fun ω' ds (ps : List (V × V)) => Rps X.K T.toTb ω' ds (ps.flatMap fun p => [p.1, p.2]) ∧ ps.length = ks.length) W σ ω S H (eArgs ts s S) R) → tPairs trs σ H R
theorem gd_nil : GDs X T W pos [] [] [] := ⟨[], pps_nil, rfl, rfl, fun σ H R ⟨s, S, ω, rl, rs, q⟩ => q.now rl ⟨Rps.nil, rfl⟩⟩
theorem gd_cons {k v : Expr} {ks : List (Option Expr)} {vs : List Expr} (hk : GE X T W k ta) (hv : GE X T W v tb) (hr : GDs X T W pos ks vs ts) : GDs X T W pos (some k :: ks) (v :: vs) (ta :: tb :: ts) := by
  obtain ⟨trs, h1, h2, h3, h4⟩ := hr
  refine ⟨_, pps_cons hk hv h1, by simpa using h2, by simp [h3], fun σ H R ⟨s, S, ω, rl, rs, q⟩ => ?_⟩
  refine ⟨s, S, ω, rl, rs, (EPg.bind q).mono ?_⟩
  rintro x H1 ⟨ω1, S1, d, e1, rl1, r1, q1⟩
  refine ⟨s, S1, ω1, rl1, rs.ext e1, ?_⟩
  have q2 : EPg X.K T (fun ω' ds (ps : List (V × V)) => Rps X.K T.toTb ω' ds (ps.flatMap fun p => [p.1, p.2]) ∧ ps.length = ks.length + 1) W σ ω1 S1 H1 ((tb s S1).bind fun x2 S2 => (eArgs ts s S2).bind fun xs S3 => .ok (d :: x2 :: xs) S3) R := by
    have e : ((eArgs (tb :: ts) s S1).bind fun xs S2 => (Res.ok (d :: xs) S2 : Res (List D))) = (tb s S1).bind fun x2 S2 => (eArgs ts s S2).bind fun xs S3 => .ok (d :: x2 :: xs) S3 := by
      show (((tb s S1).bind fun x2 S2 => (eArgs ts s S2).bind fun xs S3 => (Res.ok (x2 :: xs) S3 : Res (List D))).bind fun xs S2 => (Res.ok (d :: xs) S2 : Res (List D))) = _
      cases tb s S1 with
      | ok x2 S2 => cases h5 : eArgs ts s S2 with
        | ok xs S3 => simp only [Res.bind, h5]
        | ex y S3 => simp only [Res.bind, h5]
        | err => simp only [Res.bind, h5]
      | ex y S2 => rfl
      | err => rfl
    rw [← e]
    exact q1
  refine (EPg.bind (R := Rp X.K T.toTb) q2).mono ?_
  rintro y H2 ⟨ω2, S2, d2, e2, rl2, r2, q3⟩
  refine h4 σ H2 _ ⟨s, S2, ω2, rl2, (rs.ext e1).ext e2, ?_⟩
  refine (EPg.bind q3).mono ?_
  rintro ps H3 ⟨ω3, S3, ds, e3, rl3, ⟨r3, r4⟩, q4⟩
  exact q4.now rl3 ⟨Rps.cons ((r1.ext e2).ext e3) (Rps.cons (r2.ext e3) r3), by simp [r4]⟩
theorem keyD_ok {K : PySem.W.Frag} {ω : Wd} {d : D} {k : Key} {v : V} (h : keyD d = some k) (r : Rp K T.toTb ω d v) : v = kV k := by
  cases d <;> try (cases h; done)
  · cases h; exact r.int
  · cases h; exact r.str
theorem pairsD_ok {K : PySem.W.Frag} {ω : Wd} : ∀ {ps : List (V × V)} {ds : List D} {kvs : List (Key × D)}, pairsD ds = some kvs → Rps K T.toTb ω ds (ps.flatMap fun p => [p.1, p.2]) → ∃ ws : List (Key × V), ps = ws.map (fun kv => (kV kv.1, kv.2)) ∧ Rpk K T.toTb ω kvs ws ∧ kvs.map (·.1) = ws.map (·.1)
  | [], ds, kvs, h, r => by
    cases ds with
    | nil => cases h; exact ⟨[], rfl, by unfold Rpk; rfl, rfl⟩
    | cons d ds => have := r.length; simp at this
  | (x, y) :: ps, ds, kvs, h, r => by
    match ds, h, r with
    | [], h, r => have := r.length; simp at this
    | [d], h, r => cases h
    | d :: e :: ds, h, r =>
      have r' : Rps K T.toTb ω (d :: e :: ds) (x :: y :: ps.flatMap fun p => [p.1, p.2]) := r
      unfold Rps at r'
      obtain ⟨v, ws, e1, r1, r'⟩ := r'
      cases e1
      unfold Rps at r'
      obtain ⟨v, ws, e1, r2, r'⟩ := r'
      cases e1
      unfold pairsD at h
      split at h
      · rename_i k' r0 hk hr
        cases h
        obtain ⟨ws, e1, e2, e3⟩ := pairsD_ok hr r'
        have ek := keyD_ok hk r1
        refine ⟨(k', y) :: ws, by simp [e1, ek], ?_, by simp [e3]⟩
        unfold Rpk
        exact ⟨y, ws, rfl, r2, e2⟩
      · cases h
theorem merge_nodup : ∀ (ws acc : List (Key × V)), nodupK (ws.map (·.1)) = true → (∀ p ∈ acc, ∀ q ∈ ws, p.1 ≠ q.1) → mergeK acc ws = acc ++ ws
  | [], acc, _, _ => by simp [mergeK]
  | p :: ws, acc, h, hd => by
    have h' : ((!((ws.map (·.1)).any fun j => decide (j = p.1))) && nodupK (ws.map (·.1))) = true := h
    rw [Bool.and_eq_true] at h'
    have e : putK acc p.1 p.2 = acc ++ [p] := by
      unfold putK
      rw [if_neg]
      simp only [Bool.not_eq_true, List.any_eq_false, decide_eq_true_eq]
      intro q hq
      exact hd q hq p List.mem_cons_self
    show mergeK (putK acc p.1 p.2) ws = _
    rw [e, merge_nodup ws (acc ++ [p]) h'.2 ?_]
    · simp
    · intro a ha b hb
      rcases List.mem_append.mp ha with z | z
      · exact hd a z b (List.mem_cons_of_mem _ hb)
      · rw [List.mem_singleton.mp z]
        intro e3
        have := h'.1
        simp only [Bool.not_eq_true', List.any_eq_false, List.mem_map, decide_eq_true_eq, forall_exists_index, and_imp] at this
        exact this b.1 b hb rfl e3.symm
theorem Own.not_updP {K : PySem.W.Frag} {ω : Wd} {S : Store} {H : Hp} {A : Addr} {o : HO} (rl : Rl K T.toTb ω S H) (n : ¬ Own ω S A) (hA : H A = none ∨ ∃ u, H A = some u ∧ Plain u) : Rl K T.toTb ω S (upd H A o) := by
  refine ⟨⟨fun b q h => ?_, rl.len, fun k ds h => ?_, rl.inj, rl.lenO, fun k C fs h => ?_, rl.injO, rl.nt, tabs_putP rl.tab hA⟩, fun p hp => ⟨(rl.pinned p hp).1, ?_⟩⟩
  · rw [upd_ne fun z => n (.inl ⟨q, by rw [← z]; exact h⟩)]; exact rl.sub _ _ h
  · obtain ⟨a1, a2, vs, a3, a4⟩ := rl.obj k ds h
    exact ⟨a1, a2, vs, by rw [upd_ne fun z => n (.inr (.inl ⟨k, ds, h, z⟩))]; exact a3, a4⟩
  · obtain ⟨a1, a2, dx, gs, a3, a4⟩ := rl.objO k C fs h
    refine ⟨a1, a2, dx, gs, ?_, a4⟩
    have hk : k < ω.m := by rw [← rl.lenO]; exact (List.getElem?_eq_some_iff.mp h).1
    rw [upd_ne fun z => n (.inr (.inr ⟨k, hk, z⟩))]; exact a3
  · have h2 := (rl.pinned p hp).2
    rw [upd_ne fun z => by
      rw [z] at h2
      rcases hA with h | ⟨u, h, pu⟩
      · rw [h] at h2; cases h2
      · rw [h] at h2
        unfold LamX.CodeO at h2
        cases h2
        exact pu]
    exact h2
theorem ge_dct {ks : List (Option Expr)} {vs : List Expr} (h : GDs X T W pos ks vs ts) (h0 : ks ≠ [] := by intro z; cases z) (h15 : ks.length ≤ 15 := by decide) : GE X T W (.Dict ks vs pos) (eDct ts) := by
  obtain ⟨trs, h1, h2, h3, h4⟩ := h
  refine PE.imp (pe_disp h1 h2 h3 h0 h15) fun σ H Qv ⟨s, S, ω, rl, rs, q⟩ => ?_
  intro p hp
  have nA := own_of rl hp
  have rl0 := Own.not_upd (T := T) (o := .dK []) rl nA (.inl hp)
  refine h4 σ _ _ ⟨s, S, ω, rl0, rs, ?_⟩
  unfold eDct at q
  cases e0 : eArgs ts s S with
  | err => rw [e0] at q; exact q
  | ex x S1 =>
    rw [e0] at q
    exact fun ω' H' cls dd ex rl' er => q ω' H' cls dd (by
      refine ⟨ex.fix, ex.al, ex.len, ex.ao, ex.lenO, ex.live, fun b o hb t n => ex.frame b o (by rw [upd_ne (ne_of_none hb hp)]; exact hb) t n⟩) rl' er
  | ok ds S1 =>
    rw [e0] at q
    simp only [Res.bind] at q
    intro ω1 H1 ps ex rl1 ⟨r1, r2⟩
    have ex0 : Ext ω S H ω1 S1 H1 := ⟨ex.fix, ex.al, ex.len, ex.ao, ex.lenO, ex.live, fun b o hb t n => ex.frame b o (by rw [upd_ne (ne_of_none hb hp)]; exact hb) t n⟩
    obtain ⟨x1, x2⟩ := ex.frame p (.dK []) upd_same (fun ps z => by cases z) nA
    split at q
    · rename_i kvs hk
      split at q
      · rename_i hn
        obtain ⟨ws, e1, e2, e3⟩ := pairsD_ok hk r1
        refine ⟨x1, ws, e1, ?_, ?_⟩
        · have : ps.length = ws.length := by rw [e1, List.length_map]
          omega
        · have em : mergeK [] ws = ws := by
            rw [merge_nodup ws [] (by rw [← e3]; exact hn) (by simp)]
            rfl
          rw [em]
          have rl2 := Own.not_updP (T := T) (o := .dK ws) rl1 x2 (.inr ⟨_, x1, trivial⟩)
          have ex2 : Ext ω S H ω1 S1 (upd H1 p (.dK ws)) := ex0.upd_out hp
          obtain ⟨ω3, x1', rl3, hF, lt⟩ := Rl.adopt rl2 ex2 hp upd_same x2
          refine q ω3 _ _ x1' rl3 ?_
          unfold Rp
          refine ⟨p, ws, rfl, hF, ?_⟩
          exact Rpk.mono lt.fix lt.al lt.len lt.ao lt.lenO _ _ e2
      · exact q.elim
    · exact q.elim
theorem ge_dct0 : GE X T W (.Dict [] [] pos) (eDct []) := PE.imp pe_dnewK fun σ H Qv ⟨s, S, ω, rl, rs, q⟩ => by
  intro p hp
  obtain ⟨ω2, e2, rl2, hF⟩ := Rl.laid rl hp (.dK [])
  have q' : EPg X.K T (Rp X.K T.toTb) W σ ω S H (.ok (.dct []) S) Qv := q
  exact q' ω2 _ _ e2 rl2 (by unfold Rp; exact ⟨p, [], rfl, hF, by unfold Rpk; rfl⟩)
theorem PQ.newM {K : PySem.W.Frag} {ω : Wd} {S : Store} {H : Hp} {ds : List D} {vs : List V} {Qv : VK} (h : PQ K T ω S H (if flats ds then some (.ptr S.L.length, S.new ds) else none) Qv) (rl : Rl K T.toTb ω S H) (r : Rps K T.toTb ω ds vs) : ∀ p, H p = none → Qv (.ref p) (upd H p (.lst vs)) := fun p hp => by
  split at h
  · obtain ⟨ω2, e2, rl2, hp2⟩ := Rl.newL rl hp ‹_› r
    exact h ω2 _ _ e2 rl2 hp2
  · exact h.elim
theorem ok_addM {K : PySem.W.Frag} : Ok2 K T (rAddA K) oAddM := by
  intro ω S H x y u v Qv rl rx ry q
  unfold oAddM at q
  split at q
  · rename_i zs S1 e
    unfold oAdd at e
    split at e <;> try (cases e; done)
    · split at e <;> cases e
    · split at e
      · cases e
        obtain ⟨p1, vs, rfl, h1, r1⟩ := Rp.lst rl rx
        obtain ⟨p2, ws, rfl, h2, r2⟩ := Rp.lst rl ry
        exact .inr (.inr (.inl ⟨_, _, _, _, rfl, rfl, h1, h2, by rw [← r1.length, ← r2.length]; assumption, q.newM rl (r1.append r2)⟩))
      · cases e
    · split at e
      · split at e
        · cases e
          obtain ⟨p1, vs, rfl, _, h1, r1⟩ := Rp.ptr rl rx ‹_›
          obtain ⟨p2, ws, rfl, h2, r2⟩ := Rp.lst rl ry
          exact .inr (.inr (.inl ⟨_, _, _, _, rfl, rfl, h1, h2, by rw [← r1.length, ← r2.length]; assumption, q.newM rl (r1.append r2)⟩))
        · cases e
      · cases e
    · split at e <;> cases e
  · exact q.elim
theorem rps_rng {K : PySem.W.Frag} {T : Tb} {ω : Wd} (a : Int) : ∀ (l : List Nat), Rps K T ω (l.map fun (i : Nat) => D.int (a + i)) (l.map fun (i : Nat) => V.int (a + i))
  | [] => by unfold Rps; rfl
  | x :: l => by
    have := rps_rng (K := K) (T := T) (ω := ω) a l
    rw [List.map_cons, List.map_cons]
    unfold Rps
    exact ⟨_, _, rfl, Rp.mint _, this⟩
theorem ge_listRg {p p2 pos2 : Pos} (hc : X.calm = true) (hg : Gl X "list") (hm : X.mg "list" = none) (hg2 : Gl X "range") (hm2 : X.mg "range" = none) (ha : GE X T W a ta) (hb : GE X T W b tb)
    (na : starEach [a, b] X.env = (false, eval a X.env) :: starEach [b] X.env := by rfl) (nb : starEach [b] X.env = (false, eval b X.env) :: starEach [] X.env := by rfl) (hp : (backTo pos2 (starEach [b] X.env)).any (·.1) = false := by rfl)
    (ne : starEach [.Call (.Name "range" p2) [a, b] [] pos2] X.env = (false, eval (.Call (.Name "range" p2) [a, b] [] pos2) X.env) :: starEach [] X.env := by rfl) :
    GE X T W (.Call (.Name "list" p) [.Call (.Name "range" p2) [a, b] [] pos2] [] pos) (e2 oLstRg ta tb) := PE.imp (pe_listRg hc hg hm (prg_2 hg2 hm2 ha hb na nb hp) ne) fun σ H Qv ⟨s, S, ω, rl, rs, q⟩ => by
  refine ⟨s, S, ω, rl, rs, (EPg.bind q).mono ?_⟩
  rintro v H1 ⟨ω1, S1, d, e1, rl1, r1, q1⟩
  refine ⟨s, S1, ω1, rl1, rs.ext e1, (EPg.bind q1).mono ?_⟩
  rintro u H2 ⟨ω2, S2, d2, e2, rl2, r2, q2⟩
  have r1' := r1.ext e2
  have q3 := PQ.of q2
  unfold oLstRg at q3
  split at q3
  · rename_i i j
    split at q3
    · rename_i h
      simp only [Bool.and_eq_true, decide_eq_true_eq] at h
      refine ⟨i, j, r1'.int, r2.int, ⟨by omega, by omega, by omega, by omega, by omega⟩, ?_⟩
      exact q3.newLst rl2 (rps_rng i _)
    · exact q3.elim
  · exact q3.elim
end
end Q
set_option maxHeartbeats 2000000
namespace HT
open PySem PySem.Spec PyProof.Rows L2
section
variable {prog : Program} {w : World} {A : Around} {E : Value → Shared → Prop} {s : Shared}
theorem places_back (n : Nat) : Builtin.Slice.slicePlaces ((n : Int) - 1) (-1) (-1) = n := by
  unfold Builtin.Slice.slicePlaces
  have h1 : ¬ ((-1 : Int) > 0) := by omega
  simp only [h1, if_false]
  split
  · have e : (- -1 : Int) = 1 := by omega
    rw [e, Int.ediv_one]
    omega
  · omega
theorem sliceApplied_back {sl : Addr} {u : Tok} {n : Nat} {Q : Int × Int × Nat → Shared → Prop} (hs : s.heap.IsSliceOf sl .none .none (.int (-1) u)) (h : Q ((n : Int) - 1, -1, n) s) : wpAny (model prog w) A (Builtin.Slice.sliceApplied (.ref sl) (pure (n : Int))) Q E s := by
  obtain ⟨os, hos, hcs, hds⟩ := id hs
  unfold Builtin.Slice.sliceApplied Builtin.Slice.sliceFields
  refine wpAny_bind (wpAny_bind (wpAny_field hos hds (x := .none) rfl (wpAny_bind (wpAny_field hos hds (x := .none) rfl (wpAny_bind (wpAny_field hos hds (x := .int (-1) u) rfl (wpAny_pure ?_)))))))
  refine wpAny_bind (slicePart_int ?_)
  show wpAny _ _ (if ((-1 : Int) == 0) = true then _ else _) _ _ s
  rw [if_neg (by decide)]
  refine wpAny_bind (slicePart_none (wpAny_bind (slicePart_none (wpAny_bind (wpAny_pure ?_)))))
  show wpAny _ _ (pure ((n : Int) - 1, (-1 : Int), Builtin.Slice.slicePlaces ((n : Int) - 1) (-1) (-1))) _ _ s
  rw [places_back]
  exact wpAny_pure h
theorem fm_congr {α β : Type} {f g : α → Option β} : ∀ {l : List α}, (∀ x ∈ l, f x = g x) → l.filterMap f = l.filterMap g
  | [], _ => rfl
  | x :: l, h => by
    rw [List.filterMap_cons, List.filterMap_cons, h x List.mem_cons_self, fm_congr fun y hy => h y (List.mem_cons_of_mem _ hy)]
theorem pick_back (xs : Array Value) : ((List.range xs.size).filterMap fun (m : Nat) => xs[(((xs.size : Int) - 1) + (m : Int) * (-1)).toNat]?).toArray = xs.toList.reverse.toArray := by
  congr 1
  have h2 : (List.range xs.size).filterMap (fun (m : Nat) => xs[(((xs.size : Int) - 1) + (m : Int) * (-1)).toNat]?) = (List.range xs.size).filterMap fun (m : Nat) => xs[xs.size - 1 - m]? := by
    refine fm_congr fun m hm => ?_
    have hm' := List.mem_range.mp hm
    have e : (((xs.size : Int) - 1) + (m : Int) * (-1)).toNat = xs.size - 1 - m := by omega
    rw [e]
  rw [h2, ← PySem.W.krv_all xs]
  have h3 := congrArg (List.filterMap fun i => xs[i]?) (PySem.W.krv_range xs.size)
  rw [List.filterMap_map, List.filterMap_reverse] at h3
  exact h3
theorem getItem_tuple_back {t sl : Addr} {items : Array Value} {u : Tok} {Q : Value → Shared → Prop} (ht : IsTup s.heap t items) (hs : s.heap.IsSliceOf sl .none .none (.int (-1) u))
    (h : Q (.ref s.heap.objs.size) { s with heap := s.heap.push { cls := .type "tuple", data := .seq items.toList.reverse.toArray } }) (hsz : items.size ≤ sizeLine) : wpAny (model prog w) A (getItem (.ref t) (.ref sl)) Q E s := by
  have hso : sizeOk (.seq items.toList.reverse.toArray) := by
    show items.toList.reverse.toArray.size ≤ sizeLine
    rw [List.size_toArray, List.length_reverse, Array.length_toList]
    exact hsz
  obtain ⟨os, hos, hcs, hds⟩ := id hs
  have tS : s.TypeIs (.ref sl) "slice" := ⟨os, hos, hcs⟩
  unfold getItem
  try with_reducible refine wpAny_holding ?_
  first | refine wpAny_bind (wpAny_pure ?_) | skip
  refine wpAny_bind (wpAny_sequenceKey ht.typeIs (by decide) (wpAny_bind (wpAny_callSpecial?_slot (name := Str.ofString "__getitem__") ht.typeIs PyProof.Rows.slot_tuple_getitem (wpAny_call_entry PyProof.Rows.slot_tuple_getitem ht.typeIs entry_tuple_getitem ?_ (args_tuple_getitem _ _)))))
  show wpAny _ _ (Builtin.Tuple.tupleItemsOf (.ref t) >>= _) _ _ s
  refine wpAny_bind (tupleItemsOf_ ht (wpAny_bind (wpAny_typeOf tS ?_)))
  rw [if_pos (by decide)]
  refine wpAny_bind (sliceApplied_back hs ?_)
  have hno : ¬ ((((items.size : Int) - 1) == 0 && (-1 : Int) == 1 && items.size == items.size) = true) := by simp
  show wpAny _ _ (if (((items.size : Int) - 1) == 0 && (-1 : Int) == 1 && items.size == items.size) = true then _ else _) _ _ s
  rw [if_neg hno, pick_back]
  first
    | exact wpAny_bind (m := Builtin.Tuple.tupleExact _) (wpAny_newObj_type (wpAny_pure ⟨_, rfl, wpAny_pure h⟩) hso)
    | exact wpAny_bind (m := Builtin.Tuple.tupleExact _) (wpAny_newObj_type (wpAny_bind (wpAny_pure (wpAny_pure ⟨_, rfl, wpAny_pure h⟩))) hso)
    | exact wpAny_bind (wpAny_bind (m := Builtin.Tuple.tupleExact _) (wpAny_newObj_type (wpAny_pure (wpAny_pure ⟨_, rfl, wpAny_pure h⟩)) hso))
    | exact wpAny_bind (wpAny_bind (m := Builtin.Tuple.tupleExact _) (wpAny_newObj_type (wpAny_pure ⟨_, rfl, wpAny_pure h⟩) hso))
end
end HT
namespace Q
open PySem PySem.Spec PyProof.Rows L2
section
variable {X : Cx} {T : Tx} {W : WX} {a : Expr} {ta : Q.TE} {pos : Pos}
def tRevT (K : PySem.W.Frag) (te : L2.TE) : L2.TE := fun σ H Q => te σ H fun x H1 => ∃ a xs, x = .ref a ∧ SqT K H1 a xs ∧ ∀ p, H1 p = none → Q (.ref p) (upd H1 p (.tup xs.reverse))
theorem pe_revT {e : Expr} {te : L2.TE} {k : Nat} {p1 p2 p3 pos : Pos} (he : PE X e te) : PE X (.Subscript e (.Slice none none (some (.UnaryOp .USub (.Constant (.int 1) k p1) p2)) p3) pos) (tRevT X.K te) := by
  refine ⟨fun pins s σ H Qv I h => Subscript_ (thn (he.run pins s σ H _ I h) fun v s1 ⟨x, H1, I1, r1, q1⟩ => ?_)⟩
  obtain ⟨b, xs, rfl, hx, q⟩ := q1
  cases r1
  have hst : PO X (some (.UnaryOp .USub (.Constant (.int 1) k p1) p2)) (tPart (tUn (rU fun i => .int (-i)) (tC (.int 1)))) := po_some (pe_un un_neg pe_int)
  refine wpAny_Slice (thn (po_none.run pins s1 σ H1 (fun o H2 => o = none ∧ H2 = H1) I1 ⟨rfl, rfl⟩) fun vl s2 ⟨l, H2, I2, pl, el, e2⟩ => ?_)
  subst el e2
  refine thn (po_none.run pins s2 σ H2 (fun o H3 => o = none ∧ H3 = H2) I2 ⟨rfl, rfl⟩) fun vu s3 ⟨u, H3, I3, pu, eu, e3⟩ => ?_
  subst eu e3
  refine thn (hst.run pins s3 σ H3 (fun o H4 => o = some (-1) ∧ H4 = H3) I3 ⟨1, rfl, -1, rfl, rfl, rfl⟩) fun vs s4 ⟨o, H4, I4, ps, eo, e4⟩ => ?_
  subst eo e4
  obtain rfl : vl = .none := by cases pl; rfl
  obtain rfl : vu = .none := by cases pu; rfl
  obtain ⟨tk, rfl⟩ : ∃ tk, vs = .int (-1) tk := by cases ps; exact ⟨_, rfl⟩
  have I5 : Inv X pins σ H4 { s4 with heap := s4.heap.push { cls := .type "slice", data := .fields #[.none, .none, .int (-1) tk] } } := I4.kept (t' := s4.toks) fun b ob q => Heap.get?_push_of_some _ q
  obtain ⟨its, r, ht, hz⟩ := I5.tuple hx
  have hlen := r.length
  show wpAny (model X.prog X.w) X.A (subscriptTail e (.Slice none none (some (.UnaryOp .USub (.Constant (.int 1) k p1) p2)) p3) (.ref b) (.ref s4.heap.objs.size)) (EP X pins σ Qv) X.xe { s4 with heap := s4.heap.push { cls := .type "slice", data := .fields #[.none, .none, .int (-1) tk] } }
  refine tail_any (ops := [.ref b, .ref s4.heap.objs.size]) ht.typeIs (PyProof.Rows.slot_tuple_getitem.lookup) ?_ (by with_unfolding_all rfl)
  refine HT.getItem_tuple_back ht (Heap.IsSliceOf.new _ _ _ _) ?_ (by rw [List.size_toArray]; omega)
  refine ⟨.ref _, _, I5.laid (t' := s4.toks) (o := .tup xs.reverse) (fun b ob q => Heap.get?_push_of_some _ q) (Nat.le_refl _) ?_, rfl, q _ (I5.hok.fresh (Nat.le_refl _))⟩
  exact ⟨by rw [List.length_reverse]; exact hz, _, r.reverse, ⟨_, Heap.get?_push_size _ rfl, rfl, _, rfl⟩⟩
theorem ge_revA {k : Nat} {p1 p2 p3 : Pos} (ha : GE X T W a ta) : GE X T W (.Subscript a (.Slice none none (some (.UnaryOp .USub (.Constant (.int 1) k p1) p2)) p3) pos) (e1 oRevA ta) := by
  refine ⟨fun pins s σ H Qv I h => ?_⟩
  obtain ⟨s0, S, ω, rl, rs, q⟩ := h
  have old : (∀ ds S1, ta s0 S ≠ .ok (.tup ds) S1) → EPg X.K T (Rp X.K T.toTb) W σ ω S H (e1 oRev ta s0 S) Qv := fun n => by
    cases e0 : ta s0 S with
    | err => simp only [e1, e0, Res.bind] at q ⊢; exact q
    | ex x S1 => simp only [e1, e0, Res.bind] at q ⊢; exact q
    | ok d S1 =>
      simp only [e1, e0, Res.bind] at q ⊢
      cases d <;> first | exact q | exact absurd e0 (n _ _)
  by_cases ht : ∃ ds S1, ta s0 S = .ok (.tup ds) S1
  · obtain ⟨ds, S1, e0⟩ := ht
    simp only [e1, e0, Res.bind] at q
    refine (pe_revT ha).run pins s σ H Qv I ⟨s0, S, ω, rl, rs, ?_⟩
    rw [e0]
    intro ω' H' v ex rl' r
    have q1 := PQ.of (EPg.shift ex q)
    obtain ⟨p, vs, rfl, h1, r1⟩ := Rp.tup rl' r
    refine ⟨p, vs, rfl, h1, q1.newTup rl' ?_⟩
    refine Rps.of_get (by simp [r1.length]) fun i d v hd hv => ?_
    have hi : i < vs.length := by
      have := (List.getElem?_eq_some_iff.mp hv).1
      simpa using this
    rw [List.getElem?_reverse (by rw [r1.length]; exact hi)] at hd
    rw [List.getElem?_reverse hi] at hv
    obtain ⟨w, hw, rw'⟩ := r1.get hd
    rw [r1.length, hv] at hw
    cases hw
    exact rw'
  · exact (ge_rev ha).run pins s σ H Qv I ⟨s0, S, ω, rl, rs, old fun ds S1 e => ht ⟨ds, S1, e⟩⟩
end
end Q
set_option maxHeartbeats 1000000
namespace Q
open PySem PySem.Spec PyProof.Rows L2
def Te (T : Tx) (a : Addr) (cls : Value) (d : Option Addr) (f : Str) : Tx := { T with ea := a, ec := cls, ed := d, ef := f }
section
variable {K : PySem.W.Frag} {T : Tx} {ω : Wd} {a : Addr} {cls : Value} {d : Option Addr} {f : Str} {S : Store} {H : Hp}
theorem Rl.toE (rl : Rl K T.toTb ω S H) : Rl K (Te T a cls d f).toTb ω S H := Rl.tb (T := T.toTb) (T' := (Te T a cls d f).toTb) rfl (fun _ _ => rfl) rfl rl rl.pinned
theorem Rl.ofE (rl : Rl K (Te T a cls d f).toTb ω S H) : Rl K T.toTb ω S H := Rl.tb (T := (Te T a cls d f).toTb) (T' := T.toTb) rfl (fun _ _ => rfl) rfl rl rl.pinned
theorem Rp.toE {x : D} {v : V} (h : x.flat = true) (r : Rp K T.toTb ω x v) : Rp K (Te T a cls d f).toTb ω x v := Rp.tb (T := T.toTb) (T' := (Te T a cls d f).toTb) rfl (fun _ _ => rfl) x v h r
theorem Rp.ofE {x : D} {v : V} (h : x.flat = true) (r : Rp K (Te T a cls d f).toTb ω x v) : Rp K T.toTb ω x v := Rp.tb (T := (Te T a cls d f).toTb) (T' := T.toTb) rfl (fun _ _ => rfl) x v h r
end
section
variable {X : Cx} {T : Tx} {W : WX} {p pos : Pos}
theorem gs_tryAs {n i c : Nat} {cs : List Nat} {x nm : Str} {body suite : List Stmt} {b₀ : Stmt} {np pos' : Pos} {tb su : TSt} (hst : X.stack = X.env :: X.outer) (hf : X.env.frame = some X.env.locals) (hN : X.N.Nodup) (hi : X.N[i]? = some nm) (hln : X.env.kindOf nm = some .local)
    (hc : Names X x (.ref (T.cl c))) (tk : Takes X W) (hn : X.N.length = n)
    (hx : ∀ k ∈ cs, PySem.W.exmOne X.K (.ref (T.cl k)) (.ref (T.cl c)) = some (isSub k c))
    (hb : ∀ (W' : WX) (pn : List (Addr × Obj)) (xe : Value → Shared → Prop), Indep W' → Takes (X.tr pn xe) W' → GSs (X.tr pn xe) T W' body tb)
    (hsu : ∀ (a : Addr) (oe : Obj) (cls : Value) (d : Option Addr) (f : Str) (pn : List (Addr × Obj)), Zc cls d oe → (∃ vs, oe.data = .fields vs) → (∃ k, f = T.fld k) → GSs (X.suite a ((a, oe) :: pn)) (Te T a cls d f) Wn (b₀ :: suite) su) :
    GS X T W (.Try body [.ExceptHandler (some (.Name x np)) (some nm) (b₀ :: suite) pos'] [] [] pos) (tTryAs n i cs tb c su) :=
  PS.imp (ps_try_as hst hf hN hi hln hc tk (tb := fun W' => tSr X.K T (Wall n W') tb) (ts := fun a cls d D σ H => ∃ f, (∃ k, f = T.fld k) ∧ tSr X.K (Te T a cls d f) Wn su D σ H) (fun W' pn xe tk' _ => hb (Wall n W') pn xe wall_indep (hn ▸ takes_all tk'))
    (fun a oe cls d pn hz hf' => ⟨fun pins s σ H D I ⟨f, hk, h⟩ => (hsu a oe cls d f pn hz hf' hk).run pins s σ H D I h⟩)) fun D σ H ⟨s, S, ω, rl, rs, q⟩ => by
    refine ⟨s, S, ω, rl, rs, ?_⟩
    unfold tTryAs at q
    cases e : tb s S with
    | none => rw [e] at q; exact q
    | some r =>
      obtain ⟨f, S'⟩ := r
      rw [e] at q
      cases f with
      | nx s1 => exact q
      | ret d => exact q
      | bk s1 => exact q
      | ct s1 => exact q
      | ex x s1 =>
        simp only at q
        by_cases hcs : x.cls ∈ cs ∧ isSub x.cls c = true ∧ flats x.args = true
        · rw [if_pos hcs] at q
          obtain ⟨h1, h2, h3⟩ := hcs
          intro ω' σ' H' cls dd ex rl' rs' er σ2 hl
          refine ⟨isSub x.cls c, by rw [er.1]; exact hx _ h1, fun _ a _ => ?_, fun z => by rw [h2] at z; cases z⟩
          refine ⟨T.fld x.cls, ⟨_, rfl⟩, (List.replicate n none).set i (some (.exc x.cls x.args)), S', ω', rl'.toE, ⟨by simp [hl], fun j dj hj => ?_⟩, ?_⟩
          · rw [List.getElem?_set] at hj
            split at hj
            · rename_i hij
              subst hij
              split at hj
              · cases hj
                refine ⟨.ref a, ?_, ?_⟩
                · rw [List.getElem?_set_self]
                  rw [hl]
                  simp_all
                · unfold Rp
                  refine ⟨rfl, er.1, ?_⟩
                  have r2 := er.2
                  cases ea : x.args with
                  | nil =>
                    rw [ea] at r2
                    exact ⟨[], by unfold Rps; rfl, fun _ => r2, fun w z => by cases z⟩
                  | cons y ys =>
                    cases ys with
                    | cons y2 ys2 => rw [ea] at r2; exact r2.elim
                    | nil =>
                      rw [ea] at r2 h3
                      obtain ⟨d, v, e1, e2, e3⟩ := r2
                      have hy : y.flat = true := by
                        unfold flats at h3
                        rw [Bool.and_eq_true] at h3
                        exact h3.1
                      refine ⟨[v], ?_, (fun z => nomatch z), fun w z => ?_⟩
                      · unfold Rps
                        exact ⟨v, [], rfl, Rp.toE hy e3, by unfold Rps; rfl⟩
                      · cases z
                        exact ⟨d, e1, e2⟩
              · cases hj
            · rw [List.getElem?_replicate] at hj
              split at hj <;> cases hj
          · cases e2 : su ((List.replicate n none).set i (some (.exc x.cls x.args))) S' with
            | none => rw [e2] at q; exact q.elim
            | some r2 =>
              obtain ⟨f2, S2⟩ := r2
              rw [e2] at q
              cases f2 with
              | ret d =>
                simp only at q
                split at q
                · rename_i hfl
                  have q2 := SPg.shift ex q
                  exact fun ω2 H2 v ex2 rl2 r2 => q2 ω2 H2 v ex2 rl2.ofE (r2.ofE hfl)
                · exact q.elim
              | nx _ => exact q.elim
              | bk _ => exact q.elim
              | ct _ => exact q.elim
              | ex _ _ => exact q.elim
        · rw [if_neg hcs] at q; exact q.elim
def excB (K : PySem.W.Frag) (C : Addr) : Bool := decide (PySem.W.findIn K (.ref C) "__getattribute__" = some (some (.builtin "BaseException.__getattribute__"))) && (decide (PySem.W.findIn K (.ref C) "__getattr__" = some none) && (decide (PySem.W.subIn K (.ref C) (.type "BaseException") = some true) && (PySem.W.hasDictIn K C && (decide (PySem.W.findIn K (.ref C) "__class__" = some (some (.builtin "object.__class__"))) && (decide (PySem.W.specialIn K (.builtin "object.__class__") "__get__" = some (some (.builtin "getset_descriptor.__get__"))) && (decide (PySem.W.takesIn K (.builtin "object.__class__") = some true) && decide (PySem.W.mroIn K C (.type "object") = some true)))))))
theorem excB_ok {K : PySem.W.Frag} {C : Addr} (h : excB K C = true) : ExcC K C := by
  unfold excB at h
  simp only [Bool.and_eq_true, decide_eq_true_eq] at h
  obtain ⟨h1, h2, h3, h4, h5, h6, h7, h8⟩ := h
  exact ⟨h1, h2, h3, h4, h5, h6, h7, h8⟩
theorem pe_names {x : Str} {c : Value} {v : V} (h : Names X x c) (hr : RelV v c) : PE X (.Name x p) (fun _ H Q => Q v H) := by
  refine ⟨fun pins s σ H Q I q => ?_⟩
  obtain ⟨hg, hdb, h | ⟨h1, h2, h3⟩⟩ := h
  · exact ld_glob I hg h ⟨v, H, I, hr, q⟩ hdb
  · exact ld_blt I hg h1 h2 ⟨v, H, I, hr, q⟩ h3 hdb
theorem cr_isE {a : Addr} {oe : Obj} {cls : Value} {d : Option Addr} {pn : List (Addr × Obj)} (hz : Zc cls d oe) (hf : ∃ vs, oe.data = .fields vs) :
    CallR (X.suite a ((a, oe) :: pn)) (.builtin "isinstance") (fun xs H Q => ∃ D, cls = .ref D ∧ (d = none ∨ ∃ dd fs, d = some dd ∧ H dd = some (.xd fs)) ∧ ExcC X.K D ∧ rIsE X.K D a xs H Q) := by
  intro pins s σ H xs us Q I r h
  obtain ⟨D, rfl, rfl | ⟨dd, fs, rfl, hdd⟩, C, h⟩ := h
  · exact call_isE C hz hf pins s σ H xs us Q I r h
  · obtain ⟨c, cv, b, rfl, hcv, e, q⟩ := h
    obtain ⟨vs, hv⟩ := hf
    match us, r with
    | [u1, u2], .cons r1 (.cons r2 .nil) =>
      obtain rfl : u1 = Value.ref a := r1
      obtain rfl := hcv _ r2
      have hget := (I.pin (a, oe) (List.mem_append_left _ List.mem_cons_self)).1
      obtain ⟨mA, hns, -⟩ : ObjOk X.prog X.w H s.heap dd (.xd fs) := I.hok dd _ hdd
      obtain ⟨od, ho, -⟩ := lookIn_ns hns
      have J : PySem.W.InstAt s.heap a oe D (some od) := ⟨hget, hz.1, by unfold PySem.W.notCls; rw [hv], by rw [hz.2]; exact ho⟩
      have hcl : (PySem.W.clsIn X.K D).isSome = true := by
        obtain ⟨cd, hc, -⟩ := PySem.W.any_some C.hd
        rw [hc]
        rfl
      exact PySem.W.kia_one (PySem.W.kitx_exc hcl C.hg C.hk C.hs C.ha C.hn C.ht C.hm) I.kIn J e (fun z => nomatch z) fun tk => ⟨.bl b, H, I.kept (t' := tk) fun _ _ z => z, rfl, q⟩
theorem ge_isE {cs : List Nat} {c : Nat} {x : Str} {cv : Value} {v : V} {a : Addr} {oe : Obj} {cls : Value} {d : Option Addr} {f : Str} {pn : List (Addr × Obj)} {e : Expr} {ta : Q.TE} {p2 : Pos} (hz : Zc cls d oe) (hf : ∃ vs, oe.data = .fields vs) (hg : Gl X "isinstance") (hm : X.mg "isinstance" = none)
    (hE : ∀ k ∈ cs, ExcC X.K (T.cl k)) (hk : ∀ k ∈ cs, PySem.W.kitOne X.K (.ref (T.cl k)) cv = some (if c = 1000 then true else isSub k c)) (hc : Names X x cv) (hr : RelV v cv) (hu : ∀ u, RelV v u → u = cv) (ha : GE (X.suite a ((a, oe) :: pn)) (Te T a cls d f) Wn e ta)
    (he : starEach [e, .Name x p2] (X.suite a ((a, oe) :: pn)).env = (false, eval e (X.suite a ((a, oe) :: pn)).env) :: starEach [.Name x p2] (X.suite a ((a, oe) :: pn)).env := by rfl)
    (he2 : starEach [.Name x p2] (X.suite a ((a, oe) :: pn)).env = (false, eval (.Name x p2) (X.suite a ((a, oe) :: pn)).env) :: starEach [] (X.suite a ((a, oe) :: pn)).env := by rfl) (hpl : (backTo pos (starEach [.Name x p2] (X.suite a ((a, oe) :: pn)).env)).any (·.1) = false := by rfl) :
    GE (X.suite a ((a, oe) :: pn)) (Te T a cls d f) Wn (.Call (.Name "isinstance" p) [e, .Name x p2] [] pos) (e1 (oIsE cs c) ta) :=
  PE.imp (pe_callB (X := X.suite a ((a, oe) :: pn)) (cr_isE (X := X) hz hf) hg hm (by decide +kernel) (pa_cons ha (pa_cons (pe_names (X := X.suite a ((a, oe) :: pn)) (p := p2) hc hr) pa_nil he2) he) (by decide) (by decide) he hpl) fun σ H Qv ⟨s, S, ω, rl, rs, q⟩ => by
    refine ⟨s, S, ω, rl, rs, (EPg.bind q).mono ?_⟩
    rintro w H1 ⟨ω1, S1, dd, e1, rl1, r1, q1⟩
    have q2 := PQ.of q1
    unfold oIsE at q2
    split at q2
    · rename_i k as
      split at q2
      · exact q2.elim
      · rename_i hlen
        split at q2
        · rename_i hkc
          unfold Rp at r1
          obtain ⟨rfl, ec, ws, r, h1, h2⟩ := r1
          refine ⟨T.cl k, ec, ?_, hE k hkc, v, cv, _, rfl, hu, hk k hkc, q2.now rl1 (Rp.mbl _)⟩
          cases ws with
          | nil => exact .inl (h1 rfl)
          | cons w ws =>
            have hl := r.length
            have : ws = [] := by
              cases ws with
              | nil => rfl
              | cons _ _ => simp at hl hlen; omega
            subst this
            obtain ⟨dd, e1, e2⟩ := h2 w rfl
            exact .inr ⟨dd, _, e1, rl1.sub _ _ e2⟩
        · exact q2.elim
    · exact q2.elim
end
end Q
namespace Q
open PySem PySem.Spec PyProof.Rows L2
section
variable {X : Cx} {T : Tx}
def rCntF (K : PySem.W.Frag) : V → List V → Hp → VK → Prop := fun x xs H Q => ∃ (a : Addr) (ys : List V) (y : V), x = .ref a ∧ xs = [y] ∧ SqL K H a ys ∧ flatV y = true ∧ ys.all flatV = true ∧ Q (.int (ys.countP fun z => eqV z y : Nat)) H
theorem count_eqU {y : V} : ∀ {ys : List V} {us : List Value}, Vals ys us → ys.all flatV = true → us.countP (eqU y) = ys.countP fun z => eqV z y
  | _, _, .nil, _ => rfl
  | _, _, .cons r rs, h => by
    simp only [List.all_cons, Bool.and_eq_true] at h
    rw [List.countP_cons, List.countP_cons, eqU_of r h.1, count_eqU rs h.2]
theorem mt_lcountF : MtR X "list.count" (rCntF X.K) := by
  intro pins s σ H x xs v us Q I rx rxs h
  obtain ⟨a, ys, y, rfl, rfl, hs, fy, fys, q⟩ := h
  cases rx
  cases rxs with
  | cons ry rt =>
    rename_i uy ut
    cases rt
    obtain ⟨its, rv, ⟨⟨cls, dd, data, sl⟩, n, ho, hc, hdn, hd⟩, hlen⟩ := I.list hs
    simp only at hc hd
    subst hc hd
    refine call_meets PySem.F.slot_list_count ⟨_, ho, rfl⟩ PySem.F.entry_list_count (PySem.F.args_list_count_2 _ _)
      (SeqAt.list_countAt a its.toArray n dd sl uy (eqU y)) ⟨ho, fun u' hu' => mem_eqAt ry fy rv fys u' (by simpa using hu'), ?_⟩
    refine ⟨.int (ys.countP fun z => eqV z y : Nat), H, I.tok _, ⟨s.toks, ?_⟩, q⟩
    show Value.int ((its.toArray.toList.countP (eqU y) : Nat) : Int) s.toks = _
    rw [show its.toArray.toList = its from rfl, count_eqU rv fys]
theorem flatsV {K : PySem.W.Frag} {T : Tb} {ω : Wd} : ∀ {ds : List D} {vs : List V}, ds.all flatD = true → Rps K T ω ds vs → vs.all flatV = true ∧ ∀ (e : D) (w : V), flatD e = true → Rp K T ω e w → vs.map (fun z => eqV z w) = ds.map fun z => eqF z e
  | [], vs, _, r => by
    unfold Rps at r
    subst r
    exact ⟨rfl, fun _ _ _ _ => rfl⟩
  | d :: ds, vs, h, r => by
    unfold Rps at r
    obtain ⟨v, ws, rfl, r1, r2⟩ := r
    simp only [List.all_cons, Bool.and_eq_true] at h
    obtain ⟨f1, f2⟩ := flat_rel h.1 r1
    obtain ⟨g1, g2⟩ := flatsV h.2 r2
    refine ⟨by simp [f1, g1], fun e w he re => ?_⟩
    rw [List.map_cons, List.map_cons, f2 e w he re, g2 e w he re]
theorem countP_map' {α : Type} (f : α → Bool) (l : List α) : l.countP f = (l.map f).countP id := by simp [List.countP_map, Function.comp_def]
theorem ok_countL {K : PySem.W.Frag} : OkN K T (fun xs H Qv => ∃ x ys, xs = x :: ys ∧ rCntF K x ys H Qv) oCountL := by
  intro ω S H xs us Qv rl r q
  unfold oCountL at q
  split at q
  · rename_i l d
    obtain ⟨v, w, rfl, r1, r2⟩ := r.two
    split at q
    · rename_i ds g
      split at q
      · rename_i hf
        rw [Bool.and_eq_true] at hf
        obtain ⟨a, vs, rfl, h1, r3⟩ := Rp.itemsL rl r1 g
        obtain ⟨g1, g2⟩ := flatsV hf.2 r3
        have e := g2 d w hf.1 r2
        refine ⟨_, _, rfl, a, vs, w, rfl, rfl, SqL.of h1, (flat_rel hf.1 r2).1, g1, ?_⟩
        rw [countP_map' (fun z => eqV z w), e, ← countP_map']
        exact q.now rl (Rp.mint _)
      · exact q.elim
    · exact q.elim
  · exact q.elim
theorem ok_indexL {K : PySem.W.Frag} : OkN K T (fun xs H Qv => ∃ x ys, xs = x :: ys ∧ rIndex K x ys H Qv) oIndexL := by
  intro ω S H xs us Qv rl r q
  unfold oIndexL at q
  split at q
  · rename_i l d
    obtain ⟨v, w, rfl, r1, r2⟩ := r.two
    split at q
    · rename_i ds g
      split at q
      · rename_i hf
        rw [Bool.and_eq_true] at hf
        split at q
        · rename_i j hj
          obtain ⟨a, vs, rfl, h1, r3⟩ := Rp.itemsL rl r1 g
          obtain ⟨g1, g2⟩ := flatsV hf.2 r3
          have e := g2 d w hf.1 r2
          rw [List.findIdx?_eq_some_iff_getElem] at hj
          obtain ⟨hjl, hje, hjm⟩ := hj
          have at_ : ∀ m (hm : m < ds.length), ∃ z, vs[m]? = some z ∧ eqV z w = eqF ds[m] d := fun m hm => by
            have e2 := congrArg (fun l => l[m]?) e
            simp only [List.getElem?_map, List.getElem?_eq_getElem hm, Option.map_some] at e2
            cases hz : vs[m]? with
            | none => rw [hz] at e2; cases e2
            | some z => rw [hz] at e2; exact ⟨z, rfl, by simpa using e2⟩
          obtain ⟨z, hz, ez⟩ := at_ j hjl
          refine ⟨_, _, rfl, a, vs, w, j, z, rfl, rfl, SqL.of h1, (flat_rel hf.1 r2).1, g1, hz, by rw [ez]; exact hje, fun m z' hm hz' => ?_, q.now rl (Rp.mint _)⟩
          obtain ⟨z2, hz2, ez2⟩ := at_ m (by omega)
          rw [hz'] at hz2
          cases hz2
          rw [ez2]
          simpa using hjm m hm
        · exact q.elim
      · exact q.elim
    · exact q.elim
  · exact q.elim
end
end Q
set_option maxHeartbeats 1000000
namespace Q
open PySem PySem.Spec PyProof.Rows L2
def oexIn (K : PySem.W.Frag) (C : Addr) : Bool := match K.lookup C with
  | some ⟨.type "type", _, .cls cd, sl⟩ => match cd.mro, sl.toList with
    | .ref C' :: bm, [_, _, _, _, some (.builtin n), _] => (C' == C) && ((n == "ValueError.__new__") && (!cd.hasDel && (cd.hasDict && PySem.HandSPX.refsVE bm)))
    | _, _ => false
  | _ => false
theorem oexIn_ok {K : PySem.W.Frag} {C : Addr} (q : oexIn K C = true) : ∃ nm q N bs bm sn sub ab col dd k0 k1 k2 k3 k5, K.lookup C = some (excClassObj nm q C N bs bm true sn sub ab col dd k0 k1 k2 k3 k5 "ValueError.__new__") ∧ PySem.HandSPX.refsVE bm = true := by
  unfold oexIn at q
  split at q
  · rename_i dd cd sl ho
    split at q
    · rename_i C' bm k0 k1 k2 k3 n k5 hm hs
      simp only [Bool.and_eq_true, beq_iff_eq, Bool.not_eq_true'] at q
      obtain ⟨q1, q2, q3, q4, q5⟩ := q
      subst q1 q2
      cases cd with
      | mk nm bs mro ns qn hd sn sub ab col del =>
        simp only at hm q3 q4
        subst hm q3 q4
        have e : sl = #[k0, k1, k2, k3, some (.builtin "ValueError.__new__"), k5] := by
          apply Array.toList_inj.mp
          exact hs
        subst e
        exact ⟨nm, qn, ns, bs, bm, sn, sub, ab, col, dd, k0, k1, k2, k3, k5, ho, q5⟩
    · cases q
  · cases q
structure OxF (K : PySem.W.Frag) (C : Addr) (f : Str) (fI : Addr) : Prop where
  ox : OexC K C
  no : PySem.W.findIn K (.ref C) f = some none
  iC : PySem.W.findIn K (.ref C) "__init__" = some (some (.ref fI))
  tI : PySem.W.typeIn K (.ref fI) = some (.type "function")
  xf : XfC K C
def oxB (K : PySem.W.Frag) (C : Addr) (f : Str) (fI : Addr) : Bool := oexIn K C && (decide (PySem.W.findIn K (.ref C) "__setattr__" = some (some (.builtin "object.__setattr__"))) && (decide (PySem.W.subIn K (.ref C) (.type "BaseException") = some true) && (decide (PySem.W.typeIn K (.ref C) = some (.type "type")) &&
  (PySem.W.keepIn K (.ref C) && (decide (PySem.W.findIn K (.ref C) f = some none) && (decide (PySem.W.findIn K (.ref C) "__init__" = some (some (.ref fI))) && (decide (PySem.W.typeIn K (.ref fI) = some (.type "function")) && xfB K C)))))))
theorem oxB_ok {K : PySem.W.Frag} {C : Addr} {f : Str} {fI : Addr} (h : oxB K C f fI = true) : OxF K C f fI := by
  unfold oxB at h
  simp only [Bool.and_eq_true, decide_eq_true_eq] at h
  obtain ⟨h1, h2, h3, h4, h5, h6, h7, h8, h9⟩ := h
  exact ⟨⟨oexIn_ok h1, h2, h3, h4, h5⟩, h6, h7, h8, xfB_ok h9⟩
def initSp (K : PySem.W.Frag) (f : Str) : Sp := fun vs H Q _ => ∃ (a : Addr) (y : V) (C : Addr), vs = [.ref a, y] ∧ OexC K C ∧ PySem.W.findIn K (.ref C) f = some none ∧ H a = some (exo a C none) ∧ ∀ dx, H dx = none → dx ≠ a → Q .non (upd (upd H dx (exd dx [(f, y)])) a (exo a C (some dx)))
theorem init_ok {P : Program} {w : World} {K : PySem.W.Frag} {mg : Str → Option Value} {base : Heap} {CX : CXT} {x qual sf ar f : Str} {params : Arguments} {scope : Scope} {fI : Addr} {fd : FuncData} {p1 p2 p3 pos : Pos} {k : Nat}
    (F : FunD K x qual params [.Assign [.Attribute (.Name sf p1) f p3] (.Name ar p2) pos] scope [] [] fI fd) (S : FnScope [sf, ar] [sf, ar] scope) (v0 : Vis scope sf) (v1 : Vis scope ar)
    (d0 : (sf == ("__debug__" : Str)) = false := by decide) (d1 : (ar == ("__debug__" : Str)) = false := by decide) (c0 : (sf == ("__classdict__" : Str)) = false := by decide) (c1 : (ar == ("__classdict__" : Str)) = false := by decide)
    (hsw : ∀ env, swapsWith (.Name ar p2) (some (.Attribute (.Name sf p1) f p3)) pos.line env = pure false := by intro _; rfl) :
    FnOk P w K mg base CX (k + 1) fI fd [sf, ar] (initSp K f) :=
  F.ok S (fun vs H Q E ⟨a, y, C, e, _⟩ => by rw [e]; rfl) fun cdv A outer s H vs Q E hr ⟨a, y, C, e, hC, hno, hH, q⟩ => by
    subst e
    exact ⟨_, pss_one (ps_ost (pe_var (i := 0) rfl v0 d0 c0) (pe_var (i := 1) rfl v1 d1 c1) (hsw _)), ⟨y, rfl, .ref a, rfl, a, C, rfl, hC, hno, .inl ⟨hH, fun dx h1 h2 => q dx h1 h2⟩⟩⟩
section
variable {X : Cx} {T : Tx} {W : WX} {p pos : Pos}
theorem gs_raise1 {x f sf ar : Str} {fI : Addr} {fd : FuncData} {c k : Nat} {e : Expr} {ta : Q.TE} {pos' : Pos} (Ox : OxF X.K (T.cl c) f fI) (hf : T.fld c = f) (F1 : FnOk X.prog X.w X.K X.mg X.base (L2.CX X.prog X.w) k fI fd [sf, ar] (initSp X.K f)) (hr : Room (k + 1) X.A)
    (hb : L2.Binds X.K fd [sf, ar] []) (hc : X.calm = true) (tk : Takes X W) (hg : Gl X x) (hm : X.mg x = some (.ref (T.cl c))) (ha : GE X T W e ta)
    (hdb : (x == ("__debug__" : Str)) = false := by decide) (he : starEach [e] X.env = (false, eval e X.env) :: starEach [] X.env := by rfl) :
    GS X T W (.Raise (some (.Call (.Name x p) [e] [] pos)) none pos') (tRaise1 true c ta) :=
  PS.imp (ps_raise hc tk (pmk_oex (CX := L2.CX X.prog X.w) Ox.ox Ox.iC Ox.tI F1 hr hb .nil (passes_call (E := fun _ _ _ => False) tk fun _ _ _ _ h => h.elim) hg hm (pa_cons ha pa_nil he) hdb he)) fun D σ H ⟨s, S, ω, rl, rs, q⟩ => by
    refine ⟨s, S, ω, rl, rs, ?_⟩
    unfold tRaise1 at q
    rw [if_pos rfl] at q
    cases e0 : ta s S with
    | err => rw [e0] at q; exact q.elim
    | ex y S' => rw [e0] at q; exact q.elim
    | ok d S' =>
      rw [e0] at q
      simp only at q
      split at q
      · rename_i hfl
        intro ω1 H1 v ex rl1 r1
        refine ⟨by simp, fun a hn => ⟨a, v, T.cl c, rfl, Ox.ox, Ox.no, upd_same, fun dx hdx hda => ?_⟩⟩
        rw [upd_ne hda] at hdx
        have had : a ≠ dx := fun z => hda z.symm
        refine ⟨rfl, dx, [(f, v)], upd_same, by rw [upd_ne hda, upd_same], hdx, ?_⟩
        have eH : upd (del (upd (upd (upd H1 a (exo a (T.cl c) none)) dx (exd dx [(f, v)])) a (exo a (T.cl c) (some dx))) a) dx (.xd [(f, v)]) = upd H1 dx (.xd [(f, v)]) := by
          funext b
          unfold upd del
          by_cases h1 : b = dx
          · rw [if_pos h1, if_pos h1]
          · rw [if_neg h1, if_neg h1]
            by_cases h2 : b = a
            · rw [if_pos h2, h2, hn]
            · rw [if_neg h2]
              simp only [if_neg h2, if_neg h1]
        rw [eH]
        obtain ⟨ω2, ex2, rl2, hF⟩ := Rl.laid rl1 hdx (.xd [(f, v)])
        exact q ω2 σ _ (.ref (T.cl c)) (some dx) (ex.trans ex2) rl2 ((rs.ext ex).ext ex2) ⟨rfl, dx, v, rfl, by rw [hf]; exact hF, r1.ext ex2⟩
      · exact q.elim
theorem gs_errS {st : Stmt} : GS X T W st (fun _ _ => none) := PS.imp (t := fun _ _ _ => False) ⟨fun pins s σ H D I h => h.elim⟩ fun D σ H ⟨s, S, ω, rl, rs, q⟩ => q
theorem gs_raise1C {x f sf ar : Str} {fI : Addr} {fd : FuncData} {c k : Nat} {Pr : Prog} {e : Expr} {ta : Q.TE} {pos' : Pos} (h0 : Pr 999999 = none) (Ox : OxF X.K (T.cl c) f fI) (hf : T.fld c = f) (F1 : ∀ j, FnOk X.prog X.w X.K X.mg X.base (L2.CX X.prog X.w) (j + 1) fI fd [sf, ar] (initSp X.K f)) (hr : Room k X.A)
    (hb : L2.Binds X.K fd [sf, ar] []) (hc : X.calm = true) (tk : Takes X W) (hg : Gl X x) (hm : X.mg x = some (.ref (T.cl c))) (ha : GE X T W e ta)
    (hdb : (x == ("__debug__" : Str)) = false := by decide) (he : starEach [e] X.env = (false, eval e X.env) :: starEach [] X.env := by rfl) :
    GS X T W (.Raise (some (.Call (.Name x p) [e] [] pos)) none pos') (tRaise1 (deep (callN Pr k)) c ta) := by
  have ez : tRaise1 false c ta = fun _ _ => none := by
    funext s S
    rfl
  match k, hr with
  | 0, _ => rw [deep_zero, ez]; exact gs_errS
  | 1, _ => rw [deep_one h0, ez]; exact gs_errS
  | j + 2, hr => rw [deep_low h0]; exact gs_raise1 Ox hf (F1 j) hr hb hc tk hg hm ha hdb he
def xfsB (K : PySem.W.Frag) (f : Str) (C : Addr) : Bool := xfB K C && decide (PySem.W.findIn K (.ref C) f = some none)
theorem ge_fld {cs : List Nat} {f : Str} {a : Addr} {oe : Obj} {cls : Value} {d : Option Addr} {fe : Str} {pn : List (Addr × Obj)} {e : Expr} {ta : Q.TE} (hz : Zc cls d oe) (hf : ∃ vs, oe.data = .fields vs) (hfe : ∃ k, fe = T.fld k) (hT : ∀ k, T.fld k = f)
    (hx : ∀ k ∈ cs, XfC X.K (T.cl k) ∧ PySem.W.findIn X.K (.ref (T.cl k)) f = some none) (ha : GE (X.suite a ((a, oe) :: pn)) (Te T a cls d fe) Wn e ta)
    (hb : attributeBase e f (X.suite a ((a, oe) :: pn)).env (eval e (X.suite a ((a, oe) :: pn)).env) = eval e (X.suite a ((a, oe) :: pn)).env := by rfl) :
    GE (X.suite a ((a, oe) :: pn)) (Te T a cls d fe) Wn (.Attribute e f pos) (e1 (oFld cs) ta) := by
  obtain ⟨k0, hk0⟩ := hfe
  rw [hT] at hk0
  subst hk0
  refine ⟨fun pins s σ H Qv I h => ?_⟩
  obtain ⟨s0, S, ω, rl, rs, q⟩ := h
  by_cases hC : ∃ k, k ∈ cs ∧ cls = .ref (T.cl k)
  · obtain ⟨k, hk, hcl⟩ := hC
    refine (pe_xf (X := X) (C := T.cl k) (hx k hk).1 (hx k hk).2 hz hf ha hb).run pins s σ H Qv I ⟨s0, S, ω, rl, rs, (EPg.bind q).mono ?_⟩
    rintro v H1 ⟨ω1, S1, dd, e1, rl1, r1, q1⟩
    have q2 := PQ.of q1
    unfold oFld at q2
    split at q2
    · rename_i k2 w
      split at q2
      · unfold Rp at r1
        obtain ⟨rfl, ec, ws, r, h1, h2⟩ := r1
        obtain ⟨w', rfl, rw'⟩ := r.one
        obtain ⟨d2, e2, e3⟩ := h2 w' rfl
        refine ⟨rfl, hcl, d2, _, w', e2, rl1.sub _ _ e3, ?_, q2.now rl1 rw'⟩
        show List.lookup fe [(fe, w')] = some w'
        simp
      · exact q2.elim
    · exact q2.elim
  · refine attr_of hb (thn (ha.run pins s σ H (fun _ _ => False) I ⟨s0, S, ω, rl, rs, (EPg.bind q).mono ?_⟩) fun u s1 ⟨_, _, _, _, z⟩ => z.elim)
    rintro v H1 ⟨ω1, S1, dd, e1, rl1, r1, q1⟩
    have q2 := PQ.of q1
    unfold oFld at q2
    split at q2
    · rename_i k2 w
      split at q2
      · rename_i hk2
        unfold Rp at r1
        exact hC ⟨k2, hk2, r1.2.1⟩
      · exact q2.elim
    · exact q2.elim
end
end Q
set_option maxHeartbeats 1000000
namespace Q
open PySem PySem.Spec PyProof.Rows L2
theorem reads_strs {h : Heap} : ∀ {xs : List Str} {us : List Value}, Vals (xs.map V.str) us → ReadsAll h us (xs.map PyData.str) []
  | [], _, .nil => .nil
  | x :: xs, _, .cons r rs => by
    obtain ⟨t, rfl⟩ := r
    exact .cons (.str x t) (reads_strs rs)
theorem minD_strs (x : Str) (xs : List Str) : PySem.W.minD (.str x) (xs.map .str) = .str (minS x xs) := by
  unfold PySem.W.minD minS
  induction xs generalizing x with
  | nil => rfl
  | cons y ys ih =>
    rw [List.map_cons, List.foldl_cons, List.foldl_cons, PySem.W.dataLt_str, ← ih]
    split <;> rfl
theorem alike_strs (xs : List Str) : PySem.W.AlikeAll (xs.map .str) := by
  constructor
  · intro a ha b hb
    obtain ⟨x, -, rfl⟩ := List.mem_map.mp ha
    obtain ⟨y, -, rfl⟩ := List.mem_map.mp hb
    rfl
  · intro a ha
    obtain ⟨x, -, rfl⟩ := List.mem_map.mp ha
    exact fun z => nomatch z
theorem depth_strs : ∀ xs : List Str, PyData.depthAll (xs.map .str) = 0
  | [] => rfl
  | x :: xs => by simp [PyData.depthAll, PyData.depth, depth_strs xs]
def rMinS (K : PySem.W.Frag) : List V → Hp → VK → Prop := fun vs H Q => ∃ (a : Addr) (x : Str) (xs : List Str), vs = [.ref a] ∧ SqL K H a ((x :: xs).map V.str) ∧ Q (.str (minS x xs)) H
section
variable {X : Cx} {T : Tx} {W : WX} {p pos : Pos}
theorem cr_minS (hc : X.calm = true) (hu : X.A.units + 64 < cLine) : CallR X (.builtin "min") (rMinS X.K) := by
  intro pins s σ H vs us Q I r h
  obtain ⟨a, x, xs, rfl, hs, q⟩ := h
  obtain ⟨its, rv, hl, -⟩ := I.list hs
  rw [Vals.ref1 r]
  have rd : ReadsAll s.heap its.toArray.toList ((x :: xs).map PyData.str) [] := reads_strs rv
  refine PySem.W.min_list_data (I.ok.hd hc) hl.isList rd (alike_strs (x :: xs)) (by have := depth_strs (x :: xs); rw [List.map_cons] at this; rw [this]; omega) fun i v h' tk bs hv r' hk => ?_
  rw [minD_strs] at r'
  cases r'
  exact ⟨.str (minS x xs), H, I.kept hk, ⟨_, rfl⟩, q⟩
theorem strs_V {K : PySem.W.Frag} {T : Tb} {ω : Wd} : ∀ {ds : List D} {vs : List V} {ss : List Str}, strsOf ds = some ss → Rps K T ω ds vs → vs = ss.map V.str
  | [], vs, ss, h, r => by
    cases h
    unfold Rps at r
    exact r
  | d :: ds, vs, ss, h, r => by
    cases d <;> try (cases h; done)
    rename_i z
    unfold strsOf at h
    cases e : strsOf ds with
    | none => rw [e] at h; cases h
    | some ts =>
      rw [e] at h
      cases h
      unfold Rps at r
      obtain ⟨v, ws, rfl, r1, r2⟩ := r
      rw [r1.str, strs_V e r2]
      rfl
theorem ok_minS {K : PySem.W.Frag} : OkN K T (rMinS K) oMinS := by
  intro ω S H xs us Qv rl r q
  unfold oMinS at q
  split at q
  · rename_i d
    obtain ⟨v, rfl, r1⟩ := r.one
    split at q
    · rename_i ds g
      split at q
      · rename_i x xs hx
        obtain ⟨a, vs, rfl, h1, r3⟩ := Rp.itemsL rl r1 g
        have e := strs_V hx r3
        subst e
        exact ⟨a, x, xs, rfl, SqL.of h1, q.now rl (Rp.mstr _)⟩
      · exact q.elim
    · exact q.elim
  · exact q.elim
theorem ok_sindex {K : PySem.W.Frag} : OkN K T (fun xs H Qv => ∃ x ys, xs = x :: ys ∧ (fun x xs H Q => ∃ a b i rest, x = V.str a ∧ xs = [V.str b] ∧ Builtin.Str.occurrences a b 0 a.length 1 = i :: rest ∧ Q (V.int (i : Nat)) H) x ys H Qv) oSIndex := by
  intro ω S H xs us Qv rl r q
  unfold oSIndex at q
  split at q
  · obtain ⟨v, w, rfl, r1, r2⟩ := r.two
    split at q
    · rename_i i rest ho
      exact ⟨_, _, rfl, _, _, i, rest, r1.str, by rw [r2.str], ho, q.now rl (Rp.mint _)⟩
    · exact q.elim
  · exact q.elim
theorem ge_sindex {a b : Expr} {ta tb : Q.TE} {apos : Pos} (ho : GE X T W a ta) (he : GE X T W b tb) (hs : starEach [b] X.env = [(false, eval b X.env)] := by rfl) (hbase : attributeBase a "index" X.env (eval a X.env) = eval a X.env := by rfl) (hline : (apos.endLine == pos.line) = true := by rfl) :
    GE X T W (.Call (.Attribute a "index" apos) [b] [] pos) (eM isStrD oSIndex ta [tb]) := ge_mstr PySem.F.slot_str_index PySem.F.type_str_index mt_sindex ok_sindex ho he hs hbase hline
theorem eqS_ok {K : PySem.W.Frag} {T : Tb} {ω : Wd} {x y : D} {u v : V} {b : Bool} (rx : Rp K T ω x u) (ry : Rp K T ω y v) (e : eqS x y = some b) : scal u v = true ∧ b = decide (u = v) := by
  unfold eqS at e
  split at e
  · cases e
    rw [rx.int, ry.int]
    exact ⟨rfl, by simp⟩
  · cases e
    rw [rx.str, ry.str]
    exact ⟨rfl, by simp⟩
  · cases e
    rw [rx.bl, ry.bl]
    exact ⟨rfl, by simp⟩
  · cases e
theorem ok_eqS {K : PySem.W.Frag} : Ok2 K T rEq oEqS := by
  intro ω S H x y u v Qv rl rx ry q
  unfold oEqS at q
  split at q
  · rename_i b hb
    obtain ⟨h1, h2⟩ := eqS_ok rx ry hb
    exact ⟨h1, by rw [← h2]; exact q.now rl (Rp.mbl _)⟩
  · exact q.elim
theorem ok_neS {K : PySem.W.Frag} : Ok2 K T rNe oNeS := by
  intro ω S H x y u v Qv rl rx ry q
  unfold oNeS at q
  split at q
  · rename_i b hb
    obtain ⟨h1, h2⟩ := eqS_ok rx ry hb
    exact ⟨h1, by rw [← h2]; exact q.now rl (Rp.mbl _)⟩
  · exact q.elim
end
end Q
set_option maxHeartbeats 1000000
namespace Q
open PySem PySem.Spec PyProof.Rows L2
theorem bt_len : bootBuiltins ("len" : Str) = some (.builtin "len") := by decide +kernel
theorem bt_abs : bootBuiltins ("abs" : Str) = some (.builtin "abs") := by decide +kernel
theorem bt_max : bootBuiltins ("max" : Str) = some (.builtin "max") := by decide +kernel
theorem bt_min : bootBuiltins ("min" : Str) = some (.builtin "min") := by decide +kernel
theorem bt_all : bootBuiltins ("all" : Str) = some (.builtin "all") := by decide +kernel
theorem bt_any : bootBuiltins ("any" : Str) = some (.builtin "any") := by decide +kernel
theorem bt_sum : bootBuiltins ("sum" : Str) = some (.builtin "sum") := by decide +kernel
theorem bt_sorted : bootBuiltins ("sorted" : Str) = some (.builtin "sorted") := by decide +kernel
theorem bt_repr : bootBuiltins ("repr" : Str) = some (.builtin "repr") := by decide +kernel
theorem bt_int : bootBuiltins ("int" : Str) = some (.type "int") := by decide +kernel
theorem bt_str : bootBuiltins ("str" : Str) = some (.type "str") := by decide +kernel
theorem bt_bool : bootBuiltins ("bool" : Str) = some (.type "bool") := by decide +kernel
theorem bt_list : bootBuiltins ("list" : Str) = some (.type "list") := by decide +kernel
theorem bt_tuple : bootBuiltins ("tuple" : Str) = some (.type "tuple") := by decide +kernel
section
variable {X : Cx} {T : Tx} {W : WX} {pos : Pos}
theorem ge_cint {x : Str} {i : Int} (hg : Gl X x) (h : ∃ t, X.mg x = some (.int i t)) (hd : (x == ("__debug__" : Str)) = false := by decide) : GE X T W (.Name x pos) (eC (.int i)) := by
  obtain ⟨t, e⟩ := h
  exact ge_gint hg e ⟨t, rfl⟩ hd
theorem ge_cstr {x z : Str} (hg : Gl X x) (h : ∃ t, X.mg x = some (.str z t)) (hd : (x == ("__debug__" : Str)) = false := by decide) : GE X T W (.Name x pos) (eC (.str z)) := by
  obtain ⟨t, e⟩ := h
  exact ge_gstr hg e ⟨t, rfl⟩ hd
theorem ge_ctup {x : Str} {ds : List D} {vs : List V} (hg : Gl X x) (h : ∃ a, X.mg x = some (.ref a) ∧ ∀ H, SqT X.K H a vs) (r : ∀ ω, Rps X.K T.toTb ω ds vs := by intro ω; repeat (first | exact Rps.nil | (refine Rps.cons (Rp.mint _) ?_)))
    (hd : (x == ("__debug__" : Str)) = false := by decide) : GE X T W (.Name x pos) (eC (.tup ds)) := by
  obtain ⟨a, e, q⟩ := h
  exact ge_gtup hg e q r hd
end
abbrev AlQ : Type := He.AlD × Bool
def obsQ (n : Nat) (fa : List He.Fa) (fn : List He.DefD) (ex : PySem.W.Frag → Bool) (g : Addr → Option Obj) : AlQ := (He.obsDG n fa fn g, ex (He.frG g (He.asD g n)))
def hookQ (n : Nat) (fa : List He.Fa) (fn : List He.DefD) (ex : PySem.W.Frag → Bool) : PySem.W.Hook where
  α := AlQ
  obs := fun s => obsQ n fa fn ex s.heap.get?
  val := fun _ => (He.valD fn, true)
  says := fun _ h => ∃ K : PySem.W.Frag, K.In h ∧ He.SaysD fa fn K ∧ ex K = true
  of := fun _ _ e => by
    have e1 := congrArg (fun z : AlQ => z.1) e
    have e2 := congrArg (fun z : AlQ => z.2) e
    exact ⟨_, He.frG_in, e1, e2⟩
  keeps := fun _ _ _ ⟨K, hK, c⟩ k => ⟨K, PySem.W.Frag.In.keeps hK k, c⟩
theorem obsQ_eq {n : Nat} {fa : List He.Fa} {fn : List He.DefD} {ex : PySem.W.Frag → Bool} {g : Addr → Option Obj} {s : Shared} (h : ∀ a, g a = s.heap.get? a) : obsQ n fa fn ex g = (hookQ n fa fn ex).obs s := by
  obtain rfl : g = s.heap.get? := funext h
  rfl
def CXe (P : Program) : CXT := fun o H s E e s' => ∃ w, L2.CX P w o H s E e s'
theorem CXe.none {P : Program} (H : Hp) (s : Shared) (e : Value) (s' : Shared) (h : CXe P [] H s (fun _ _ _ => False) e s') : False := by
  obtain ⟨w, _, _, _, _, _, _, _, _, _, _, _, _, z⟩ := h
  exact z
theorem FnOk.toEx {P : Program} {w : World} {K : PySem.W.Frag} {mg : Str → Option Value} {base : Heap} {k : Nat} {f : Addr} {fd : FuncData} {ps : List Str} {sp : Sp} (F : FnOk P w K mg base (L2.CX P w) k f fd ps sp) : FnOk P w K mg base (CXe P) k f fd ps sp :=
  ⟨F.len, fun A outer s H args us vs Qv E hr he hb hv hs => codeAny_mono (F.run A outer s H args us vs Qv E hr he hb hv hs) fun r s' h => by
    cases r with
    | ok f => cases f <;> exact h
    | error e => exact ⟨w, h⟩⟩
def noTb (H : Hp) : Hp := fun a => match H a with
  | some (.tbl _) => none
  | o => o
theorem noTb_of {H : Hp} {a : Addr} {o : HO} (h : H a = some o) (ho : ∀ ps, o ≠ .tbl ps) : noTb H a = some o := by
  unfold noTb
  rw [h]
  cases o <;> first | rfl | exact absurd rfl (ho _)
theorem noTb_to {H : Hp} {a : Addr} {o : HO} (h : noTb H a = some o) : H a = some o := by
  unfold noTb at h
  cases e : H a with
  | none => rw [e] at h; cases h
  | some u => rw [e] at h; cases u <;> first | exact h | cases h
theorem noTb_nt {H : Hp} {a : Addr} {ps : Array Value} : noTb H a ≠ some (.tbl ps) := fun h => by
  have h2 := noTb_to h
  unfold noTb at h
  rw [h2] at h
  cases h
theorem start_ok {K : PySem.W.Frag} {T : Tx} {Pr : Prog} {k id : Nat} {H : Hp} {a : Addr} {ns : List Int} (hS : SqL K H a (ns.map V.int)) (h : ∃ S, callN Pr k id [.src ns] ⟨[], []⟩ = .ok (.bl true) S) (hT : LamX.Tabs T.tabs H := by intro p hp; cases hp) (hP : T.pin = [] := by rfl) :
    spOf K T Pr k id [.ref a] H (fun v _ => v = .bl true) (fun _ _ _ => False) := by
  obtain ⟨S, e⟩ := h
  have hS' : SqL K (noTb H) a (ns.map V.int) := by
    rcases hS with (h | ⟨o, h⟩) | h
    · exact .inl (.inl (noTb_of h fun ps z => by cases z))
    · exact .inl (.inr ⟨o, noTb_of h fun ps z => by cases z⟩)
    · exact .inr h
  refine ⟨[.src ns], ⟨[], []⟩, ⟨noTb H, fun _ => 0, 0, fun _ => 0, 0⟩, ⟨⟨fun b o h => noTb_to h, rfl, fun k ds h => ?_, fun j k ds es h => ?_, rfl, fun k C fs h => ?_, fun j k h => absurd h (Nat.not_lt_zero _), fun b ps => noTb_nt, hT⟩, fun p hp => by rw [hP] at hp; cases hp⟩, Rps.cons (by unfold Rp; exact ⟨a, rfl, hS'⟩) Rps.nil, ?_⟩
  · simp [Store.get] at h
  · simp [Store.get] at h
  · simp at h
  · rw [e]
    exact fun ω' H' v _ _ r => r.bl
def ErrN : Nat → Str
  | 0 => "DutyError" | 1 => "BadForm" | 2 => "BadMost" | 3 => "BadNumber" | 4 => "BadRow" | 5 => "BadRule" | 6 => "BadSign" | 7 => "BadStep" | 8 => "NoDuty" | 9 => "NoLine"
  | 10 => "TooLong" | 11 => "NotEven" | 12 => "NotEvenRound" | 13 => "TooMany" | _ => "Uneven"
def ecB (K : PySem.W.Frag) (C : Addr) : Bool := PySem.W.keepIn K (.ref C) && (PySem.W.excIn K C VEt "ValueError.__new__" && (decide (PySem.W.subIn K (.ref C) (.type "BaseException") = some true) && decide (PySem.W.typeIn K (.ref C) = some (.type "type"))))
theorem ecB_ok {K : PySem.W.Frag} {mg : Str → Option Value} {x : Str} {C : Addr} (g : mg x = some (.ref C)) (h : ecB K C = true) : EC K mg x C := by
  obtain ⟨h1, h2⟩ := He.ba h
  obtain ⟨h3, h4⟩ := He.ba h2
  obtain ⟨h5, h6⟩ := He.ba h4
  exact ⟨g, h1, h3, of_decide_eq_true h5, of_decide_eq_true h6⟩
def exmB (K : PySem.W.Frag) (cs ds : List Nat) : Bool := cs.all fun c => ds.all fun d => decide (PySem.W.exmOne K (.ref (He.ga K (ErrN c))) (.ref (He.ga K (ErrN d))) = some (isSub c d))
theorem exmB_ok {K : PySem.W.Frag} {T : Tx} {cs : List Nat} {hs : List (Nat × TSt)} (h : exmB K cs (hs.map (·.1)) = true) (hT : T.cl = fun c => He.ga K (ErrN c) := by rfl) :
    ∀ c ∈ cs, ∀ q ∈ hs, PySem.W.exmOne K (.ref (T.cl c)) (.ref (T.cl q.1)) = some (isSub c q.1) := fun c hc q hq => by
  have h1 := List.all_eq_true.mp h c hc
  have h2 := List.all_eq_true.mp h1 q.1 (List.mem_map.mpr ⟨q, hq, rfl⟩)
  rw [hT]
  exact of_decide_eq_true h2
theorem exm1_ok {K : PySem.W.Frag} {T : Tx} {cs : List Nat} {c : Nat} (h : exmB K cs [c] = true) (hT : T.cl = fun c => He.ga K (ErrN c) := by rfl) :
    ∀ k ∈ cs, PySem.W.exmOne K (.ref (T.cl k)) (.ref (T.cl c)) = some (isSub k c) := fun k hk => exmB_ok (T := T) (hs := [(c, fun _ _ => none)]) h hT k hk (c, fun _ _ => none) List.mem_cons_self
def clsDef (s : Stmt) (j : Nat) : Stmt := match s with
  | .ClassDef _ _ _ body _ _ _ _ _ _ _ => body.getD j (.Pass ⟨0, 0, 0, 0⟩)
  | _ => .Pass ⟨0, 0, 0, 0⟩
def xfsA (K : PySem.W.Frag) (cs : List Nat) (f : Str) : Bool := cs.all fun k => xfsB K f (He.ga K (ErrN k))
theorem xfsA_ok {K : PySem.W.Frag} {T : Tx} {cs : List Nat} {f : Str} (h : xfsA K cs f = true) (hT : T.cl = fun c => He.ga K (ErrN c) := by rfl) : ∀ k ∈ cs, XfC K (T.cl k) ∧ PySem.W.findIn K (.ref (T.cl k)) f = some none := fun k hk => by
  rw [hT]
  have := List.all_eq_true.mp h k hk
  unfold xfsB at this
  rw [Bool.and_eq_true, decide_eq_true_eq] at this
  exact ⟨xfB_ok this.1, this.2⟩
def excsB (K : PySem.W.Frag) (cs : List Nat) : Bool := cs.all fun c => excB K (He.ga K (ErrN c))
theorem excsB_ok {K : PySem.W.Frag} {T : Tx} {cs : List Nat} (h : excsB K cs = true) (hT : T.cl = fun c => He.ga K (ErrN c) := by rfl) : ∀ k ∈ cs, ExcC K (T.cl k) := fun k hk => by
  rw [hT]
  exact excB_ok (List.all_eq_true.mp h k hk)
def kiB (K : PySem.W.Frag) (cs : List Nat) (c : Nat) : Bool := cs.all fun k => decide (PySem.W.kitOne K (.ref (He.ga K (ErrN k))) (if c = 1000 then .type "ValueError" else .ref (He.ga K (ErrN c))) = some (if c = 1000 then true else isSub k c))
theorem kiB_ok {K : PySem.W.Frag} {T : Tx} {cs : List Nat} {c : Nat} {cv : Value} (h : kiB K cs c = true) (hT : T.cl = fun c => He.ga K (ErrN c) := by rfl) (hc : cv = (if c = 1000 then .type "ValueError" else .ref (He.ga K (ErrN c))) := by rfl) :
    ∀ k ∈ cs, PySem.W.kitOne K (.ref (T.cl k)) cv = some (if c = 1000 then true else isSub k c) := fun k hk => by
  rw [hT, hc]
  exact of_decide_eq_true (List.all_eq_true.mp h k hk)
def tabsU (ts : List (Addr × Str)) : Bool := ts.all fun a => ts.all fun b => decide (a.1 ≠ b.1) || decide (a.2 = b.2)
theorem tabU_ok {ts : List (Addr × Str)} (h : tabsU ts = true) (p : Addr × Str) (hp : p ∈ ts) (q : Addr × Str) (hq : q ∈ ts) (e : p.1 = q.1) : p.2 = q.2 := by
  have h1 := List.all_eq_true.mp h p hp
  have h2 := List.all_eq_true.mp h1 q hq
  rcases Bool.or_eq_true_iff.mp h2 with z | z
  · exact absurd e (of_decide_eq_true z)
  · exact of_decide_eq_true z
theorem cdv_of {K : PySem.W.Frag} {x qual : Str} {cdv : Value} (h : CdOk K (He.ga K x) qual cdv) : cdv = .ref (He.codeOf K (x, none)) := by
  obtain ⟨oc, od, osl, fd, lk, e, hc⟩ := h
  obtain ⟨c, rfl⟩ := He.codeIn_ref hc
  rw [He.codeOf_eq (p := (x, none)) (show K.lookup (He.fAd K (x, none)) = _ from lk) e]
theorem tabs_of {H : Hp} {ts : List (Addr × Str)} (h : ∀ p ∈ ts, H p.1 = some (.tbl #[])) : LamX.Tabs ts H := fun p hp => LamX.TabS.nil (h p hp)
end Q
namespace Q
open PySem L2
section
variable {α β : Type} {s : Sl} {S S1 : Store} {d e : D} {a b c t : TE} {i j : Int}
@[simp] theorem bind_ok {x : α} {k : α → Store → Res β} : (Res.ok x S).bind k = k x S := (rfl)
@[simp] theorem bind_ex {x : Ex} {k : α → Store → Res β} : (Res.ex x S : Res α).bind k = .ex x S := (rfl)
@[simp] theorem bind_err {k : α → Store → Res β} : (Res.err : Res α).bind k = .err := (rfl)
@[simp] theorem onE_ok' {k : D → Store → RS} : onE (.ok d S) s k = k d S := (rfl)
@[simp] theorem onE_ex' {x : Ex} {k : D → Store → RS} : onE (.ex x S) s k = some (.ex x s, S) := (rfl)
@[simp] theorem onE_err' {k : D → Store → RS} : onE .err s k = none := (rfl)
@[simp] theorem ofO_some : ofO (some (d, S)) = .ok d S := (rfl)
@[simp] theorem ofO_none : ofO none = .err := (rfl)
@[simp] theorem eV_eq {n : Nat} : eV n s S = match s[n]? with | some (some d) => .ok d S | _ => .err := (rfl)
@[simp] theorem eC_eq : eC d s S = .ok d S := (rfl)
@[simp] theorem e1_eq {f : Op1} : e1 f a s S = (a s S).bind fun x S1 => ofO (f x S1) := (rfl)
@[simp] theorem e2_eq {f : Op2} : e2 f a b s S = (a s S).bind fun x S1 => (b s S1).bind fun y S2 => ofO (f x y S2) := (rfl)
@[simp] theorem eArgs_nil : eArgs [] s S = .ok [] S := (rfl)
@[simp] theorem eArgs_cons {as : List TE} : eArgs (a :: as) s S = (a s S).bind fun x S1 => (eArgs as s S1).bind fun xs S2 => .ok (x :: xs) S2 := (rfl)
@[simp] theorem eN_eq {f : OpN} {as : List TE} : eN f as s S = (eArgs as s S).bind fun xs S1 => ofO (f xs S1) := (rfl)
@[simp] theorem eM_eq {k : D → Store → Bool} {f : OpN} {as : List TE} : eM k f a as s S = (a s S).bind fun x S1 => if k x S1 then (eArgs as s S1).bind fun xs S2 => ofO (f (x :: xs) S2) else .err := (rfl)
@[simp] theorem eCall_eq {cl : CallT} {n : Nat} {as : List TE} : eCall cl n as s S = (eArgs as s S).bind fun xs S1 => cl n xs S1 := (rfl)
@[simp] theorem asB_bl' {k : Bool → Store → Res D} {x : Bool} : asB (.bl x) S k = k x S := (rfl)
@[simp] theorem asBS_bl' {k : Bool → Store → RS} {x : Bool} : asBS (.bl x) S k = k x S := (rfl)
@[simp] theorem eAnd_eq : eAnd a b s S = (a s S).bind fun x S1 => asB x S1 fun c S2 => if c then b s S2 else .ok (.bl false) S2 := (rfl)
@[simp] theorem eOr_eq : eOr a b s S = (a s S).bind fun x S1 => asB x S1 fun c S2 => if c then .ok (.bl true) S2 else b s S2 := (rfl)
@[simp] theorem eNot_eq : eNot a s S = (a s S).bind fun x S1 => asB x S1 fun c S2 => .ok (.bl (!c)) S2 := (rfl)
@[simp] theorem eIf_eq : eIf t a b s S = (t s S).bind fun x S1 => asB x S1 fun c S2 => if c then a s S2 else b s S2 := (rfl)
@[simp] theorem eChain_eq {f g : Op2} : eChain f g a b c s S = (a s S).bind fun x S1 => (b s S1).bind fun y S2 => (ofO (f x y S2)).bind fun r S3 => asB r S3 fun k S4 =>
  if k then (c s S4).bind fun z S5 => ofO (g y z S5) else .ok (.bl false) S4 := (rfl)
@[simp] theorem eTup_eq {as : List TE} : eTup as s S = (eArgs as s S).bind fun xs S1 => .ok (.tup xs) S1 := (rfl)
@[simp] theorem eLst_eq {as : List TE} : eLst as s S = (eArgs as s S).bind fun xs S1 => .ok (.lst xs) S1 := (rfl)
@[simp] theorem eLstM_eq {as : List TE} : eLstM as s S = (eArgs as s S).bind fun xs S1 => if flats xs then .ok (.ptr S1.L.length) (S1.new xs) else .err := (rfl)
@[simp] theorem put_nm {n : Nat} : (Pat.nm n).put d s = some (s.set n (some d)) := (rfl)
@[simp] theorem put_tp {ps : List Pat} {ds : List D} : (Pat.tp ps).put (.tup ds) s = Pat.puts ps ds s := (rfl)
@[simp] theorem puts_nil : Pat.puts [] [] s = some s := (rfl)
@[simp] theorem puts_cons {p : Pat} {ps : List Pat} {ds : List D} : Pat.puts (p :: ps) (d :: ds) s = match p.put d s with | some s1 => Pat.puts ps ds s1 | none => none := (rfl)
@[simp] theorem tNo_eq : tNo s S = none := (rfl)
@[simp] theorem tPass_eq : tPass s S = some (.nx s, S) := (rfl)
@[simp] theorem tBrk_eq : tBrk s S = some (.bk s, S) := (rfl)
@[simp] theorem tCnt_eq : tCnt s S = some (.ct s, S) := (rfl)
@[simp] theorem tSeq_eq {x y : TSt} : tSeq x y s S = match x s S with | some (.nx s1, S1) => y s1 S1 | r => r := (rfl)
@[simp] theorem tExpr_eq : tExpr a s S = onE (a s S) s fun _ S1 => some (.nx s, S1) := (rfl)
@[simp] theorem tRet_eq : tRet a s S = onE (a s S) s fun d S1 => some (.ret d, S1) := (rfl)
@[simp] theorem tSet_eq {p : Pat} : tSet p a s S = onE (a s S) s fun d S1 => match p.put d s with | some s1 => some (.nx s1, S1) | none => none := (rfl)
@[simp] theorem tIf_eq {x y : TSt} : tIf t x y s S = onE (t s S) s fun v S1 => asBS v S1 fun c S2 => if c then x s S2 else y s S2 := (rfl)
@[simp] theorem tSetIx_eq {o ix v : TE} : tSetIx o ix v s S = onE (v s S) s fun x S1 => onE (o s S1) s fun y S2 => onE (ix s S2) s fun z S3 => match setL y z x S3 with | some S4 => some (.nx s, S4) | none => none := (rfl)
@[simp] theorem tFor_eq {p : Pat} {src : Src} {x : TSt} : tFor p src x s S = match src s S with | .ok ds S1 => forL p x ds s S1 | .ex e S1 => some (.ex e s, S1) | .err => none := (rfl)
@[simp] theorem tFrz_eq {n : Nat} {x : TSt} : tFrz n x s S = match frzS n s S with | some (s1, S1) => x s1 S1 | none => none := (rfl)
@[simp] theorem sN_eq {f : List D → Option (List D)} {as : List TE} : sN f as s S = (eArgs as s S).bind fun xs S1 => match f xs with | some ds => .ok ds S1 | none => .err := (rfl)
@[simp] theorem eLc_eq {vs : List Nat} {p : Pat} {src : Src} : eLc vs p src t a s S = (src s S).bind fun ds S1 => lcL p t a (wipeS s vs) ds [] S1 := (rfl)
@[simp] theorem wipeS_nil : wipeS s [] = s := (rfl)
@[simp] theorem wipeS_cons {v : Nat} {vs : List Nat} : wipeS s (v :: vs) = (wipeS s vs).set v none := (rfl)
@[simp] theorem oAdd_int : oAdd (.int i) (.int j) S = some (.int (i + j), S) := (rfl)
@[simp] theorem oSub_int : oSub (.int i) (.int j) S = some (.int (i - j), S) := (rfl)
@[simp] theorem oNeg_int : oNeg (.int i) S = some (.int (-i), S) := (rfl)
@[simp] theorem oLt_int : oLt (.int i) (.int j) S = some (.bl (decide (i < j)), S) := (rfl)
@[simp] theorem oLe_int : oLe (.int i) (.int j) S = some (.bl (decide (i ≤ j)), S) := (rfl)
@[simp] theorem oGt_int : oGt (.int i) (.int j) S = some (.bl (decide (j < i)), S) := (rfl)
@[simp] theorem oGe_int : oGe (.int i) (.int j) S = some (.bl (decide (j ≤ i)), S) := (rfl)
@[simp] theorem oEq_int : oEq (.int i) (.int j) S = some (.bl (decide (i = j)), S) := (rfl)
@[simp] theorem oNe_int : oNe (.int i) (.int j) S = some (.bl (!decide (i = j)), S) := (rfl)
@[simp] theorem oEq_bl {x y : Bool} : oEq (.bl x) (.bl y) S = some (.bl (decide (x = y)), S) := (rfl)
@[simp] theorem oNe_bl {x y : Bool} : oNe (.bl x) (.bl y) S = some (.bl (!decide (x = y)), S) := (rfl)
@[simp] theorem oEq_str {x y : Str} : oEq (.str x) (.str y) S = some (.bl (decide (x = y)), S) := (rfl)
@[simp] theorem oNe_str {x y : Str} : oNe (.str x) (.str y) S = some (.bl (!decide (x = y)), S) := (rfl)
@[simp] theorem oIsN_eq : oIsN d S = some (.bl (isN d), S) := (rfl)
@[simp] theorem oNotN_eq : oNotN d S = some (.bl (!isN d), S) := (rfl)
@[simp] theorem isN_non : isN .non = true := (rfl)
@[simp] theorem isN_int : isN (.int i) = false := (rfl)
@[simp] theorem isN_bl {x : Bool} : isN (.bl x) = false := (rfl)
@[simp] theorem isN_str {x : Str} : isN (.str x) = false := (rfl)
@[simp] theorem isN_tup {x : List D} : isN (.tup x) = false := (rfl)
@[simp] theorem isN_lst {x : List D} : isN (.lst x) = false := (rfl)
@[simp] theorem oAbs_eq : oAbs [.int i] S = some (.int (if i < 0 then -i else i), S) := (rfl)
@[simp] theorem oInt_int : oInt [.int i] S = some (.int i, S) := (rfl)
@[simp] theorem oInt_bl {x : Bool} : oInt [.bl x] S = some (.int (if x then 1 else 0), S) := (rfl)
@[simp] theorem oLen_lst {x : List D} : oLen [.lst x] S = some (.int x.length, S) := (rfl)
@[simp] theorem oLen_tup {x : List D} : oLen [.tup x] S = some (.int x.length, S) := (rfl)
@[simp] theorem oMax2_eq : oMax2 [.int i, .int j] S = some (.int (if j > i then j else i), S) := (rfl)
@[simp] theorem oMin2_eq : oMin2 [.int i, .int j] S = some (.int (if j < i then j else i), S) := (rfl)
@[simp] theorem oPow_10 {n : Nat} : oPow (.int 10) (.int (n : Int)) S = if n ≤ 1000000 then some (.int (10 ^ n), S) else none := by
  unfold oPow
  have h : decide ((10 : Int).natAbs < 2 ^ 64) = true := by decide
  simp [h]
  congr 1
  apply propext; omega
theorem oMulL_int (h : smallI i || smallI j || (midI i && midI j)) : oMulL (.int i) (.int j) S = some (.int (i * j), S) := by
  unfold oMulL; simp only; rw [if_pos h]
theorem oMul_l (h1 : -(2 ^ 64) < i) (h2 : i < 2 ^ 64) : oMulL (.int i) (.int j) S = some (.int (i * j), S) := oMulL_int (by
  have : smallI i = true := by unfold smallI; simp only [Bool.and_eq_true, decide_eq_true_eq]; exact ⟨h1, h2⟩
  simp [this])
theorem oMul_r (h1 : -(2 ^ 64) < j) (h2 : j < 2 ^ 64) : oMulL (.int i) (.int j) S = some (.int (i * j), S) := oMulL_int (by
  have : smallI j = true := by unfold smallI; simp only [Bool.and_eq_true, decide_eq_true_eq]; exact ⟨h1, h2⟩
  simp [this])
theorem oDiv_small (h1 : 0 < j) (h2 : j < 1073741824) : oDiv (.int i) (.int j) S = some (.int (i / j), S) := by
  unfold oDiv
  have : divOk j = true := by
    unfold divOk
    simp only [Bool.or_eq_true, Bool.and_eq_true, decide_eq_true_eq]
    exact .inl ⟨by omega, by omega⟩
  simp only [this, if_true]
  rw [Int.fdiv_eq_ediv_of_nonneg _ (by omega)]
theorem oDiv_big (h1 : 0 < j) (h2 : j.natAbs.log2 < 9000) : oDiv (.int i) (.int j) S = some (.int (i / j), S) := by
  unfold oDiv
  have : divOk j = true := by
    unfold divOk
    simp only [Bool.or_eq_true, Bool.and_eq_true, decide_eq_true_eq]
    exact .inr ⟨h1, h2⟩
  simp only [this, if_true]
  rw [Int.fdiv_eq_ediv_of_nonneg _ (by omega)]
theorem oMod_pos (h1 : 0 < j) : oMod (.int i) (.int j) S = some (.int (i % j), S) := by
  unfold oMod
  simp only
  rw [if_neg (by omega), Int.fmod_eq_emod_of_nonneg _ (by omega)]
theorem oIx_lst {xs : List D} {n : Nat} (h : xs[n]? = some d) : oIx (.lst xs) (.int n) S = some (d, S) := by
  have h1 := (List.getElem?_eq_some_iff.mp h).1
  have e : atI xs (n : Int) = some d := atI_nat h
  simp [oIx, itemsLT, itemsL, e]
theorem oIx_tup {xs : List D} {n : Nat} (h : xs[n]? = some d) : oIx (.tup xs) (.int n) S = some (d, S) := by
  have e : atI xs (n : Int) = some d := atI_nat h
  simp [oIx, itemsLT, e]
@[simp] theorem oIx_tup0 {x : D} {xs : List D} : oIx (.tup (x :: xs)) (.int 0) S = some (x, S) := oIx_tup (n := 0) rfl
@[simp] theorem oIx_tup1 {x y : D} {xs : List D} : oIx (.tup (x :: y :: xs)) (.int 1) S = some (y, S) := oIx_tup (n := 1) rfl
@[simp] theorem oIx_tup2 {x y z : D} {xs : List D} : oIx (.tup (x :: y :: z :: xs)) (.int 2) S = some (z, S) := oIx_tup (n := 2) rfl
theorem oIx_ptr {xs : List D} {k n : Nat} (g : S.get k = some xs) (h : xs[n]? = some d) : oIx (.ptr k) (.int n) S = some (d, S) := by
  have e : atI xs (n : Int) = some d := atI_nat h
  simp [oIx, itemsLT, itemsL, g, e]
theorem setL_ptr {xs : List D} {k n : Nat} (g : S.get k = some xs) (h : n < xs.length) (f : d.flat = true) : setL (.ptr k) (.int n) d S = some (S.put k (xs.set n d)) := by
  have e : ixN xs.length (n : Int) = some n := by unfold ixN; simp [h]
  simp [setL, g, e, f]
theorem get_lt {k : Nat} {xs : List D} (h : S.get k = some xs) : k < S.L.length := by
  unfold Store.get at h
  cases e : S.L[k]? with
  | none => rw [e] at h; cases h
  | some o => exact (List.getElem?_eq_some_iff.mp e).1
@[simp] theorem put_put {k : Nat} {xs ys : List D} : (S.put k xs).put k ys = S.put k ys := by unfold Store.put; simp
theorem get_put_self {k : Nat} {xs ys : List D} (h : S.get k = some xs) : (S.put k ys).get k = some ys := by
  have := get_lt h
  unfold Store.get Store.put
  simp [this]
theorem get_put_ne {k j : Nat} {ys : List D} (h : j ≠ k) : (S.put k ys).get j = S.get j := by
  unfold Store.get Store.put
  simp [List.getElem?_set_ne (Ne.symm h)]
theorem put_self {k : Nat} {xs : List D} (h : S.get k = some xs) : S.put k xs = S := by
  unfold Store.get at h
  unfold Store.put
  cases e : S.L[k]? with
  | none => rw [e] at h; cases h
  | some o =>
    rw [e] at h
    cases o with
    | none => cases h
    | some ys =>
      cases h
      obtain ⟨h1, h2⟩ := List.getElem?_eq_some_iff.mp e
      have : S.L.set k (some xs) = S.L := by rw [← h2, List.set_getElem_self]
      rw [this]
@[simp] theorem put_len {k : Nat} {xs : List D} : (S.put k xs).L.length = S.L.length := by unfold Store.put; simp
theorem get_new_self {xs : List D} : (S.new xs).get S.L.length = some xs := by unfold Store.get Store.new; simp
theorem get_new_lt {k : Nat} {xs : List D} (h : k < S.L.length) : (S.new xs).get k = S.get k := by
  unfold Store.get Store.new
  simp [List.getElem?_append_left h]
end
theorem run_keep {np ns : Nat} {b : CallT → TSt} {c : CallT} {vs : List D} {S S' : Store} {v : D} (hl : vs.length = np) (h : b c (vs.map some ++ List.replicate (ns - np) none) S = some (.ret v, S')) : runFn ⟨np, ns, true, b⟩ c vs S = .ok v S' := by
  unfold runFn
  simp only [hl, if_true]
  simp only [h]
  rfl
theorem run_keep_nx {np ns : Nat} {b : CallT → TSt} {c : CallT} {vs : List D} {S S' : Store} {s' : Sl} (hl : vs.length = np) (h : b c (vs.map some ++ List.replicate (ns - np) none) S = some (.nx s', S')) : runFn ⟨np, ns, true, b⟩ c vs S = .ok .non S' := by
  unfold runFn
  simp only [hl, if_true]
  simp only [h]
  rfl
theorem run_cut {np ns : Nat} {b : CallT → TSt} {c : CallT} {vs : List D} {S S' : Store} {v : D} (hl : vs.length = np) (h : b c (vs.map some ++ List.replicate (ns - np) none) S = some (.ret v, S')) (hf : v.flat = true) : runFn ⟨np, ns, false, b⟩ c vs S = .ok v (S'.cut S.L.length) := by
  unfold runFn
  simp only [hl, if_true]
  simp only [h]
  unfold leave
  simp [hf]
theorem lc_map {i : Nat} {t e : TE} {s : Sl} {S : Store} (f : D → D) : ∀ (ds acc : List D), (∀ d ∈ ds, t (s.set i (some d)) S = .ok (.bl true) S ∧ e (s.set i (some d)) S = .ok (f d) S) → acc.length + ds.length ≤ sizeLine → lcL (.nm i) t e s ds acc S = .ok (.lst (acc ++ ds.map f)) S
  | [], acc, _, _ => by simp [lcL]
  | d :: ds, acc, h, hl => by
    obtain ⟨h1, h2⟩ := h d List.mem_cons_self
    simp only [List.length_cons] at hl
    have h3 : lineOk acc.length = true := by unfold lineOk; exact decide_eq_true (by omega)
    unfold lcL
    simp only [put_nm, h1, h2, h3, if_true]
    rw [lc_map f ds (acc ++ [f d]) (fun d' hd => h d' (List.mem_cons_of_mem _ hd)) (by simp; omega)]
    simp
theorem lc_mapP {p : Pat} {t e : TE} {s : Sl} {S : Store} (f : D → D) : ∀ (ds acc : List D), (∀ d ∈ ds, ∃ s1, p.put d s = some s1 ∧ t s1 S = .ok (.bl true) S ∧ e s1 S = .ok (f d) S) → acc.length + ds.length ≤ sizeLine → lcL p t e s ds acc S = .ok (.lst (acc ++ ds.map f)) S
  | [], acc, _, _ => by simp [lcL]
  | d :: ds, acc, h, hl => by
    obtain ⟨s1, h0, h1, h2⟩ := h d List.mem_cons_self
    simp only [List.length_cons] at hl
    have h3 : lineOk acc.length = true := by unfold lineOk; exact decide_eq_true (by omega)
    unfold lcL
    simp only [h0, h1, h2, h3, if_true]
    rw [lc_mapP f ds (acc ++ [f d]) (fun d' hd => h d' (List.mem_cons_of_mem _ hd)) (by simp; omega)]
    simp
theorem whL_mono {t : TE} {b : TSt} : ∀ {n m : Nat} {s : Sl} {S : Store} {r : Fl × Store}, whL t b n s S = some r → n ≤ m → whL t b m s S = some r
  | 0, _, _, _, _, h, _ => by cases h
  | n + 1, 0, _, _, _, _, hm => absurd hm (Nat.not_succ_le_zero _)
  | n + 1, m + 1, s, S, r, h, hm => by
    unfold whL at h ⊢
    cases e : t s S with
    | ok d S1 =>
      simp only [e, onE_ok'] at h ⊢
      cases d <;> try (simp [asBS] at h; done)
      rename_i k
      simp only [asBS_bl'] at h ⊢
      cases k with
      | false => simpa using h
      | true =>
        simp only [if_true] at h ⊢
        cases e2 : b s S1 with
        | none => simp [e2] at h
        | some p =>
          obtain ⟨f, S3⟩ := p
          simp only [e2] at h ⊢
          cases f with
          | nx s3 => exact whL_mono h (Nat.le_of_succ_le_succ hm)
          | ct s3 => exact whL_mono h (Nat.le_of_succ_le_succ hm)
          | bk s3 => exact h
          | ret d => exact h
          | ex x s3 => exact h
    | ex x S1 => simp only [e, onE_ex'] at h ⊢; exact h
    | err => simp [e] at h
theorem while_of {t : TE} {b : TSt} {n : Nat} {s : Sl} {S : Store} {r : Fl × Store} (h : whL t b n s S = some r) (hn : n ≤ whMost) : tWhile t b s S = some r := whL_mono h hn
section
variable {s : Sl} {S : Store} {d : D}
@[simp] theorem tRaise_eq {c : Nat} : tRaise c s S = some (.ex ⟨c, []⟩ s, S) := (rfl)
@[simp] theorem flatR_ok : flatR (.ok d S) = if d.flat then .ok d S else .err := (rfl)
@[simp] theorem flatR_ex {e : Ex} : flatR (.ex e S) = if flats e.args then .ex e S else .err := (rfl)
theorem run_ex {np ns : Nat} {b : CallT → TSt} {c : CallT} {vs : List D} {S S' : Store} {e : Ex} {s' : Sl} (hl : vs.length = np) (h : b c (vs.map some ++ List.replicate (ns - np) none) S = some (.ex e s', S')) : runFn ⟨np, ns, true, b⟩ c vs S = .ex e S' := by
  unfold runFn
  simp only [hl, if_true]
  simp only [h]
theorem eTold_ret {n : Nat} {b : (Store → Res D) → TSt} {te : TE} {S' : Store} (h : b (fun S1 => flatR (te s S1)) (some (.fn 0) :: List.replicate n none) S = some (.ret d, S')) (hf : d.flat = true) : eTold true n b te s S = .ok d S' := by
  unfold eTold
  rw [if_pos rfl, h]
  simp [hf]
end
end Q
set_option maxHeartbeats 2000000
namespace Q
open PySem PySem.Spec PyProof.Rows L2
structure RoomG (k : Nat) (A : Around) : Prop extends Room k A where
  gd : A.guards = some []
theorem RoomG.mono {j k : Nat} {A : Around} (r : RoomG k A) (h : j ≤ k) : RoomG j A := ⟨r.toRoom.mono h, r.gd⟩
theorem RoomG.deeper {k : Nat} {A : Around} (r : RoomG (k + 1) A) (env : Env) : RoomG k (A.deeper env) := ⟨r.toRoom.deeper env, r.gd⟩
theorem RoomG.u200 {k : Nat} {A : Around} (r : RoomG k A) : A.units + 200 < cLine := by have := r.un; omega
structure FnOkG (P : Program) (w : World) (K : PySem.W.Frag) (mg : Str → Option Value) (base : Heap) (CX : CXT) (k : Nat) (f : Addr) (fd : FuncData) (ps : List Str) (sp : Sp) : Prop where
  len : ∀ vs H Q E, sp vs H Q E → vs.length = ps.length
  runG : ∀ (A : Around) (below : List Env) (s : Shared) (H : Hp) (as : Args) (us : List Value) (vs : List V) (Q : VK) (E : XK), RoomG k A → Env0 P w K mg base A below s H → BindsTo s fd as (ps.zip us) → Vals vs us → sp vs H Q E → codeAny (model P w) A (.call (.ref f) as) (CR CX below P w H s Q E) s
theorem FnOkG.toEx {P : Program} {w : World} {K : PySem.W.Frag} {mg : Str → Option Value} {base : Heap} {k : Nat} {f : Addr} {fd : FuncData} {ps : List Str} {sp : Sp} (F : FnOkG P w K mg base (L2.CX P w) k f fd ps sp) : FnOkG P w K mg base (CXe P) k f fd ps sp :=
  ⟨F.len, fun A below s H as us vs Qv E hr he hb hv hs => codeAny_mono (F.runG A below s H as us vs Qv E hr he hb hv hs) fun r s' h => by
    cases r with
    | error e => exact ⟨w, h⟩
    | ok f => cases f <;> exact h⟩
theorem fn_ofG {CX : CXT} {P : Program} {w : World} {K : PySem.W.Frag} {mg : Str → Option Value} {base : Heap} {k : Nat} {f : Addr} {nm ql : Str} {pr : Arguments} {bd : List Stmt} {sc : Scope} {dV kV doc pm cdv ct oc : Value} {an od : Option Addr} {osl : Array (Option Value)} {N ps : List Str} {sp : Sp}
    (lk : K.lookup f = some ⟨oc, od, .func (PySem.W.fnOf nm ql pr bd sc dV kV doc pm an cdv ct), osl⟩) (hcd : PySem.W.codeIn K cdv ql = true) (S : FnScope N ps sc) (len : ∀ vs H Q E, sp vs H Q E → vs.length = ps.length)
    (hbody : ∀ (A : Around) (below : List Env) (s : Shared) (H : Hp) (vs : List V) (Q : VK) (E : XK), RoomG k (A.deeper (envOfC ql sc s.heap.objs.size f cdv)) → sp vs H Q E → ∃ t, PSs (cxOf CX P w K mg base N ql sc f cdv A below s H E) bd t ∧ t { nx := fun _ H' => Q .non H', rt := Q } (start N vs) H) :
    FnOkG P w K mg base CX (k + 1) f (PySem.W.fnOf nm ql pr bd sc dV kV doc pm an cdv ct) ps sp := ⟨len, fun A below s H as us vs Q E hr e0 hb rv hsp => by
  have nvs := len _ _ _ _ hsp
  have stays : ∀ b o, base.get? b = some o → s.heap.get? b = some o := fun b o e => (e0.bs b o e).1
  have inS : K.In s.heap := e0.mod.kin.keeps stays
  have nol : s.heap.NoLimit := e0.mod.nolimit.keeps stays
  have kinds : ∀ y ∈ ps.zip us, sc.names.lookup y.1 = some .local ∨ (sc.names.lookup y.1 = some .cell ∧ ((cellsFrom (s.heap.objs.size + 1) sc.names []).lookup y.1).isSome = true) := by
    rintro ⟨n, v⟩ hy
    exact (S.par n (List.of_mem_zip hy).1).imp id fun q => ⟨q, PySem.W.cellsFrom_some _ _ _ (.inl q)⟩
  refine codeAny_call_function hr.toRoom.depth (inS _ _ lk) rfl S.co S.gen rfl (PySem.W.codeRec_of inS hcd) (hb _ _ _ _ (wpAny_newFunctionEnv_cells S.kind kinds fun env he s1 x => ?_))
  subst he
  refine ⟨nol.keeps x.toInCall.keep, codeAny_func ?_⟩
  obtain ⟨t, ht, hq⟩ := hbody A below s H vs Q E (hr.deeper _) hsp
  refine wpAny_mono (ht.run [] s1 (start N vs) H _ (inv_start S hr.toRoom.hd e0 nvs rv x) hq) (fun fl s' hs => ?_) fun _ _ z => z
  cases fl with
  | next =>
    obtain ⟨σ', H', J, q⟩ := hs
    exact ⟨.non, H', J.os, J.bare, J.base, J.hok, rfl, q⟩
  | ret u =>
    obtain ⟨v, σ', H', J, ru, q⟩ := hs
    exact ⟨v, H', J.os, J.bare, J.base, J.hok, ru, q⟩
  | brk =>
    obtain ⟨_, _, _, z⟩ := hs
    exact z.elim
  | cont =>
    obtain ⟨_, _, _, z⟩ := hs
    exact z.elim⟩
section
variable {X : Cx} {T : Tx} {W : WX} {e : Expr} {es : List Expr} {ts : List Q.TE} {pos : Pos}
theorem run_fnG {k : Nat} {f : Addr} {fd : FuncData} {ps : List Str} {sp : Sp} {CX : CXT} {E : XK} {pins : List (Addr × Obj)} {σ : L2.St} {H : Hp} {s : Shared} {Qv : VK} {us : List Value} {vs : List V} (F : FnOkG X.prog X.w X.K X.mg X.base CX k f fd ps sp) (hr : RoomG k X.A) (hb : Binds X.K fd ps [])
    (hx : PassesAt CX X σ E) (I : Inv X pins σ H s) (rv : Vals vs us) (h : sp vs H Qv E) : wpAny (model X.prog X.w) X.A (call (.ref f) us) (EP X pins σ Qv) X.xe s := by
  have nu : us.length = ps.length := rv.length.symm.trans (F.len _ _ _ _ h)
  have b := hb s us I.kIn (by rw [List.append_nil]; exact nu)
  rw [List.append_nil] at b
  refine wpAny_call (codeAny_mono (F.runG X.A X.stack s H ⟨us, []⟩ us vs Qv E hr I.env0 b rv h) fun r s' z => ?_)
  cases r with
  | error x => exact hx pins H s x s' I z
  | ok fl => cases fl <;> first | exact I.after z | exact False.elim z
theorem ge_callG {k id : Nat} {P : Prog} {f : Addr} {fd : FuncData} {ps : List Str} {x : Str} {p : Pos} (F : FnOkG X.prog X.w X.K X.mg X.base (L2.CX X.prog X.w) k f fd ps (spOf X.K T P k id)) (hr : RoomG k X.A) (hg : Gl X x) (hm : X.mg x = some (.ref f)) (hk : PySem.W.keepIn X.K (.ref f) = true)
    (hb : Binds X.K fd ps []) (tk : Takes X W) (ha : GA X T W (e :: es) ts) (hdb : (x == ("__debug__" : Str)) = false := by decide) (he : starEach (e :: es) X.env = (false, eval e X.env) :: starEach es X.env := by rfl) (hpl : (backTo pos (starEach es X.env)).any (·.1) = false := by rfl) :
    GE X T W (.Call (.Name x p) (e :: es) [] pos) (eCall (callN P k) id ts) := by
  have pe : PE X (.Call (.Name x p) (e :: es) [] pos) (tCallS (spOf X.K T P k id) (WE W) (tAr X.K T W (eArgs ts))) := ⟨fun pins s σ H Qv I h => wpAny_Call_Name_kw (ld_glob I hg hm (PySem.W.callWith_K (h₀ := X.base) I.ok.mod.kin hk (thn (ha.run pos pins s σ H _ I h) fun us s1 ⟨vs, H1, I1, r, q⟩ => ⟨I1.kIn, run_fnG F hr hb (passAt tk σ) I1 r q⟩) he hpl) hdb)⟩
  refine PE.imp pe fun σ H Qv ⟨s, S, ω, rl, rs, q⟩ => ⟨s, S, ω, rl, rs, (EPg.bind q).mono ?_⟩
  rintro vs H1 ⟨ω1, S1, ds, e1, rl1, r1, q1⟩
  refine ⟨ds, S1, ω1, rl1, r1, ?_⟩
  cases z : callN P k id ds S1 <;> rw [z] at q1 <;> exact q1
end
section
variable {P : Program} {w : World} {K : PySem.W.Frag} {mg : Str → Option Value} {base : Heap} {x qual : Str} {params : Arguments} {body : List Stmt} {scope : Scope} {f : Addr} {fd : FuncData} {T : Tx}
theorem fn_okG {N ps : List Str} {k id : Nat} {Pr : Prog} {d : FnD} (F : FunD K x qual params body scope [] [] f fd) (Sc : FnScope N ps scope) (hP : Pr id = some d) (hnp : d.np = ps.length) (hns : d.ns = N.length)
    (hbody : ∀ (cdv : Value), CdOk K f qual cdv → ∀ (A : Around) (outer : List Env) (s : Shared) (H : Hp) (E : XK), RoomG k (A.deeper (envOfC qual scope s.heap.objs.size f cdv)) →
      GSs (cxOf (L2.CX P w) P w K mg base N qual scope f cdv A outer s H E) T (fun cls dd _ H => E cls dd H) body (d.body (callN Pr k))) : FnOkG P w K mg base (L2.CX P w) (k + 1) f fd ps (spOf K T Pr (k + 1) id) := by
  obtain ⟨oc, od, dV, kV, doc, pm, an, cdv, ct, osl, rfl, lk, hcd, _, _⟩ := F.ex
  exact fn_ofG lk hcd Sc (fun vs H Qv E z => sp_len hP hnp z) fun A outer s H vs Qv E hr z => ⟨_, hbody cdv ⟨oc, od, osl, _, lk, rfl, hcd⟩ A outer s H E hr, sp_body hP hns hnp z⟩
structure FnOG (P : Program) (w : World) (K : PySem.W.Frag) (mg : Str → Option Value) (base : Heap) (T : Tx) (Pr : Prog) (k id : Nat) (x : Str) (f : Addr) (ps : List Str) : Prop where
  g : mg x = some (.ref f)
  kp : PySem.W.keepIn K (.ref f) = true
  fn : ∃ fd, Binds K fd ps [] ∧ FnOkG P w K mg base (L2.CX P w) k f fd ps (spOf K T Pr k id)
theorem fn_zeroG {Pr : Prog} {id : Nat} {ps : List Str} : FnOkG P w K mg base (L2.CX P w) 0 f fd ps (spOf K T Pr 0 id) := ⟨fun vs H Qv E ⟨_, _, _, _, _, q⟩ => q.elim, fun A below s H as us vs Qv E _ _ _ _ ⟨_, _, _, _, _, q⟩ => q.elim⟩
end
section
variable {X : Cx} {T : Tx} {W : WX} {e : Expr} {es : List Expr} {ts : List Q.TE} {pos : Pos}
theorem ge_fnG {k id : Nat} {Pr : Prog} {f : Addr} {ps : List Str} {x : Str} {p : Pos} (F : FnOG X.prog X.w X.K X.mg X.base T Pr k id x f ps) (hr : RoomG k X.A) (tk : Takes X W) (hg : Gl X x) (ha : GA X T W (e :: es) ts)
    (hdb : (x == ("__debug__" : Str)) = false := by decide) (he : starEach (e :: es) X.env = (false, eval e X.env) :: starEach es X.env := by rfl) (hpl : (backTo pos (starEach es X.env)).any (·.1) = false := by rfl) : GE X T W (.Call (.Name x p) (e :: es) [] pos) (eCall (callN Pr k) id ts) :=
  F.fn.elim fun fd z => ge_callG z.2 hr hg F.g F.kp z.1 tk ha hdb he hpl
end
end Q
set_option maxHeartbeats 2000000
namespace Q
open PySem PySem.Spec PyProof.Rows L2 LamX
structure First (P : Program) (w : World) (K : PySem.W.Frag) (cs : List (Addr × Addr)) (a : Addr) (ns : List Int) (h : Heap) (H : Hp) : Prop where
  tb : ∀ p ∈ cs, H p.2 = some (.tbl #[])
  only : ∀ b, H b = none ∨ b ∈ cs.map (·.2) ∨ ∃ o xs, H b = some (.frz o (.lst xs))
  sq : SqL K H a (ns.map V.int)
  ok : HOk P w H h
  who : ∀ b, H b ≠ none → b = a ∨ b ∈ cs.map (·.2)
  out : H a ≠ none → K.lookup a = none
section
variable {P : Program} {w : World} {K : PySem.W.Frag} {cs : List (Addr × Addr)} {a : Addr} {ns : List Int} {vs : List Value} {h : Heap}
theorem tab_at (hT : ∀ p ∈ cs, h.get? p.2 = some { cls := .none, data := .fields #[] }) {b : Addr} (hb : b ∈ cs.map (·.2)) : h.get? b = some { cls := .none, data := .fields #[] } := by
  obtain ⟨p, hp, rfl⟩ := List.mem_map.mp hb
  exact hT p hp
theorem first_ex (KX : K.In h) (hT : ∀ p ∈ cs, h.get? p.2 = some { cls := .none, data := .fields #[] }) (ha : h.get? a = some { cls := .type "list", data := .seq vs.toArray }) (hi : IntsAre vs ns) (hl : ns.length ≤ sizeLine) : ∃ H, First P w K cs a ns h H := by
  have hz : ∀ p ∈ cs, p.2 ∈ cs.map (·.2) := fun p hp => List.mem_map.mpr ⟨p, hp, rfl⟩
  have na : a ∉ cs.map (·.2) := fun z => by
    have q := (tab_at hT z).symm.trans ha
    simp at q
  have rv := vals_ints hi
  by_cases hk : K.lookup a = none
  · obtain ⟨H, hH⟩ : ∃ H : Hp, H = fun b => if b = a then some (.frz { cls := .type "list", data := .seq vs.toArray } (.lst (ns.map V.int))) else if b ∈ cs.map (·.2) then some (.tbl #[]) else none := ⟨_, rfl⟩
    have h1 : H a = some (.frz { cls := .type "list", data := .seq vs.toArray } (.lst (ns.map V.int))) := by rw [hH]; exact if_pos rfl
    have h2 : ∀ b, b ∈ cs.map (·.2) → H b = some (.tbl #[]) := fun b hb => by
      rw [hH]
      exact (if_neg fun (z : b = a) => na (z ▸ hb)).trans (if_pos hb)
    have h3 : ∀ b, b ≠ a → b ∉ cs.map (·.2) → H b = none := fun b n1 n2 => by
      rw [hH]
      exact (if_neg n1).trans (if_neg n2)
    refine ⟨H, fun p hp => h2 _ (hz p hp), fun b => ?_, .inl (.inr ⟨_, h1⟩), fun b u z => ?_, fun b z => ?_, fun _ => hk⟩
    · by_cases n1 : b = a
      · exact .inr (.inr ⟨_, _, n1 ▸ h1⟩)
      · by_cases n2 : b ∈ cs.map (·.2)
        · exact .inr (.inl n2)
        · exact .inl (h3 b n1 n2)
    · by_cases n1 : b = a
      · subst n1
        rw [h1] at z
        cases z
        exact ⟨ha, by rw [List.length_map]; exact hl, vs, _, rv, ha⟩
      · by_cases n2 : b ∈ cs.map (·.2)
        · rw [h2 b n2] at z
          cases z
          exact tab_at hT n2
        · rw [h3 b n1 n2] at z
          cases z
    · by_cases n1 : b = a
      · exact .inl n1
      · exact .inr (Classical.byContradiction fun n2 => z (h3 b n1 n2))
  · obtain ⟨o, e⟩ := Option.ne_none_iff_exists'.mp hk
    have eo := (KX a o e).symm.trans ha
    cases eo
    obtain ⟨H, hH⟩ : ∃ H : Hp, H = fun b => if b ∈ cs.map (·.2) then some (.tbl #[]) else none := ⟨_, rfl⟩
    have h2 : ∀ b, b ∈ cs.map (·.2) → H b = some (.tbl #[]) := fun b hb => by rw [hH]; exact if_pos hb
    have h3 : ∀ b, b ∉ cs.map (·.2) → H b = none := fun b n2 => by rw [hH]; exact if_neg n2
    refine ⟨H, fun p hp => h2 _ (hz p hp), fun b => ?_, .inr ⟨_, vs.toArray, _, e, rfl, rfl, rfl, by rw [List.size_toArray, hi.length]; exact hl, by simpa using rv⟩, fun b u z => ?_, fun b z => .inr (Classical.byContradiction fun n2 => z (h3 b n2)), fun z => absurd (h3 a na) z⟩
    · by_cases n2 : b ∈ cs.map (·.2)
      · exact .inr (.inl n2)
      · exact .inl (h3 b n2)
    · by_cases n2 : b ∈ cs.map (·.2)
      · rw [h2 b n2] at z
        cases z
        exact tab_at hT n2
      · rw [h3 b n2] at z
        cases z
end
theorem law_callG {P : Program} {w : World} {K : PySem.W.Frag} {mg mb : Str → Option Value} {CX : CXT} {k : Nat} {fa a : Addr} {cs : List (Addr × Addr)} {fd : FuncData} {x : Str} {sp : Sp} {s₁ : Shared} {vs : List Value} {ns : List Int}
    (KX : K.In s₁.heap) (hns : s₁.heap.Ns mainGlobals mg) (hb : s₁.heap.Ns builtinsNs mb) (hbb : ∀ x : Str, x ≠ "__name__" → mb x = bootBuiltins x) (hlim : s₁.heap.NoLimit) (hg : s₁.gens = #[])
    (hT : ∀ p ∈ cs, s₁.heap.get? p.2 = some { cls := .none, data := .fields #[] }) (nT : ∀ p ∈ cs, K.lookup p.2 = none) (C : ∀ p ∈ cs, PySem.W.CodeHd s₁.heap p.1 p.2)
    (hbm : ∃ (bm : Addr) (ob : Obj), mg "__builtins__" = some (.ref bm) ∧ bm ≠ builtinsNs ∧ s₁.heap.get? bm = some ob ∧ ob.cls = .type "module" ∧ ob.dict = some builtinsNs ∧ ob.data = .plain)
    (ha : s₁.heap.get? a = some { cls := .type "list", data := .seq vs.toArray }) (hi : IntsAre vs ns) (hl : ns.length ≤ sizeLine) (hr : RoomG k callerA)
    (F : ∀ base : Heap, K.In base → base.Ns mainGlobals mg → (∀ p ∈ cs, TabB base mg p.1 p.2) → FnOkG P w K mg base CX k fa fd [x] sp) (hbind : ∀ (s : Shared) (u : Value), BindsTo s fd ⟨[u], []⟩ [(x, u)])
    (hsp : ∀ H : Hp, (∀ p ∈ cs, H p.2 = some (.tbl #[])) → SqL K H a (ns.map V.int) → sp [.ref a] H (fun v _ => v = .bl true) fun _ _ _ => False)
    (hCX : ∀ H e s', CX [] H s₁ (fun _ _ _ => False) e s' → False) :
    codeAny (model P w) callerA (.call (.ref fa) ⟨[.ref a], []⟩) (fun r s' => r = .ok (.ret (.bool true)) ∧ OldK s₁.heap s'.heap ∧ s'.os = s₁.os ∧ AllBare s'.gens) s₁ := by
  obtain ⟨H, Z⟩ := first_ex (P := P) (w := w) KX hT ha hi hl
  -- what is not the script and no table is not tracked
  have free : ∀ {b : Addr} {o : Obj}, s₁.heap.get? b = some o → (∀ us n, o.data ≠ .seq us n) → o.data ≠ .fields #[] → H b = none := fun {b o} e n1 n2 => Classical.byContradiction fun z => by
    rcases Z.who b z with rfl | hb
    · rw [ha] at e
      cases e
      exact n1 _ _ rfl
    · rw [tab_at hT hb] at e
      cases e
      exact n2 rfl
  have kept : ∀ {b : Addr} {o : Obj}, s₁.heap.get? b = some o → (∀ us n, o.data ≠ .seq us n) → o.data ≠ .fields #[] → (hidT s₁.heap H).get? b = some o := fun e n1 n2 => hidT_get e (free e n1 n2)
  have nsOf : ∀ {b : Addr} {m : Str → Option Value}, s₁.heap.Ns b m → (hidT s₁.heap H).Ns b m := by
    rintro b m ⟨o, es, ep, e, d, r⟩
    exact ⟨o, es, ep, kept e (fun us n z => by rw [d] at z; cases z) (fun z => by rw [d] at z; cases z), d, r⟩
  have inB : K.In (hidT s₁.heap H) := fun b o e => hidT_get (KX b o e) (Classical.byContradiction fun z => by
    rcases Z.who b z with rfl | hb
    · rw [Z.out z] at e
      cases e
    · obtain ⟨p, hp, rfl⟩ := List.mem_map.mp hb
      rw [nT p hp] at e
      cases e)
  have tabs : ∀ p ∈ cs, TabB (hidT s₁.heap H) mg p.1 p.2 := fun p hp => by
    have eT := hT p hp
    refine ⟨?_, ?_, fun z => ?_⟩
    · obtain ⟨o, us, file, tf, flags, tg, inF, text, tt, e1, r1, r2, r3, rest⟩ := C p hp
      exact ⟨o, us, file, tf, flags, tg, inF, text, tt, kept e1 (fun vs n z => by rw [r2] at z; cases z) (fun z => by
        rw [r2] at z
        cases z
        simp at r3), r1, r2, r3, rest⟩
    · obtain ⟨bm, ob, b1, b2, b3, b4, b5, b6⟩ := hbm
      refine ⟨bm, ob, b1, b2, fun q => ?_, fun q => ?_, kept b3 (fun vs n z => by rw [b6] at z; cases z) (fun z => by rw [b6] at z; cases z), b4, b5, b6⟩
      · obtain ⟨o, es, ep, e, hd, _⟩ := hns
        rw [← q, b3] at e
        cases e
        rw [b6] at hd
        cases hd
      · rw [q, eT] at b3
        cases b3
        cases b6
    · obtain ⟨o, es, ep, e, hd, _⟩ := hns
      rw [z, eT] at e
      cases e
      cases hd
  obtain ⟨ml, l1, l2⟩ := hlim
  have e0 : Env0 P w K mg (hidT s₁.heap H) callerA [] s₁ H := ⟨rfl, ⟨inB, nsOf hns, ⟨mb, nsOf hb, hbb⟩, ⟨ml, nsOf l1, l2⟩⟩, fun b o e => of_hidT e, Nat.le_of_eq (hidT_size _ _), trivial, fun b z => (List.not_mem_nil z).elim, Z.ok, .of_eq hg⟩
  refine codeAny_mono ((F _ inB (nsOf hns) tabs).runG callerA [] s₁ H ⟨[.ref a], []⟩ [.ref a] [.ref a] _ _ hr e0 (hbind s₁ (.ref a)) (.cons rfl .nil) (hsp H Z.tb Z.sq)) fun r s' z => ?_
  rcases r with e | fl
  · exact (hCX H e s' z).elim
  rcases fl with _ | _ | _ | u
  case ret =>
    obtain ⟨v, H', os, bare, un, hok', ru, rfl⟩ := z
    obtain rfl : u = Value.bool true := ru
    have other : ∀ b o, b ∉ cs.map (·.2) → s₁.heap.get? b = some o → s'.heap.get? b = some o := fun b o nb e => by
      rcases Z.only b with z | z | ⟨ob, xs, z⟩
      · exact un.keep b o e z (fun y => (List.not_mem_nil y).elim) (by simp)
      · exact absurd z nb
      · obtain ⟨e1, _⟩ := Z.ok b _ z
        obtain ⟨e2, _⟩ := hok' b _ (un.frzs b ob _ z)
        exact e2.trans (e1.symm.trans e)
    have grown : ∀ b, b ∈ cs.map (·.2) → ∃ p ∈ cs, p.2 = b ∧ ∃ more : Array Value, s'.heap.get? b = some { cls := .none, data := .fields more } := fun b hb => by
      obtain ⟨p, hp, rfl⟩ := List.mem_map.mp hb
      obtain ⟨more, z⟩ := un.tbls p.2 #[] (Z.tb p hp)
      exact ⟨p, hp, rfl, _, hok' p.2 _ z⟩
    refine ⟨rfl, ⟨fun b o e => ?_, fun b o e => ?_⟩, os, bare⟩
    · by_cases hb : b ∈ cs.map (·.2)
      · obtain ⟨p, hp, rfl, more, hm⟩ := grown b hb
        have e2 := e.symm.trans (hT p hp)
        cases e2
        exact .inr (.inl ⟨((C p hp).tab (hT p hp)).isCodeTable, rfl, #[], more, rfl, by rw [Array.empty_append]; exact hm⟩)
      · exact .inl (other b o hb e)
    · by_cases hb : b ∈ cs.map (·.2)
      · obtain ⟨p, hp, rfl, more, hm⟩ := grown b hb
        exact ⟨_, hm⟩
      · exact ⟨o, other b o hb e⟩
  all_goals exact z.elim
def LawAtG (l : PySem.W.OpenLaw) (w : World) (K : PySem.W.Frag) (CX : CXT) (k n : Nat) (x : Str) (mg : Str → Option Value) (fa : Addr) (h : Heap) : Prop :=
  ∃ (fd : FuncData) (cs : List (Addr × Addr)) (sp : Sp), (∀ p ∈ cs, h.get? p.2 = some { cls := .none, data := .fields #[] }) ∧ (∀ p ∈ cs, K.lookup p.2 = none) ∧ (∀ p ∈ cs, PySem.W.CodeHd h p.1 p.2) ∧ (∀ (s : Shared) (u : Value), BindsTo s fd ⟨[u], []⟩ [(x, u)]) ∧ (∀ (H : Hp) (a : Addr) (ns : List Int), ns.length ≤ n →
    (∀ z ∈ ns, Builtin.Int.intBits z ≤ 1048576) → (∀ p ∈ cs, H p.2 = some (.tbl #[])) → SqL K H a (ns.map V.int) → sp [.ref a] H (fun v _ => v = .bl true) fun _ _ _ => False) ∧ ∀ base : Heap, K.In base → base.Ns mainGlobals mg → (∀ p ∈ cs, TabB base mg p.1 p.2) → FnOkG l.prog w K mg base CX k fa fd [x] sp
theorem walk_ofG {l : PySem.W.OpenLaw} {n k : Nat} {q : Program} {loose : List Str} {XP : (Str → Option Value) → Heap → Prop} {YP : World → Heap → Prop} {d : DefRec} {CX : World → CXT} {x : Str} (hn : l.most = some n) (hn2 : n ≤ sizeLine) (hdf : d.params.defaults = []) (hr : RoomG k callerA)
    (F : ∀ (w : World) (mg : Str → Option Value) (fa : Addr) (h : Heap), YP w h → h.Ns mainGlobals mg → mg d.name = some (.ref fa) → ∃ K : PySem.W.Frag, K.In h ∧ LawAtG l w K (CX w) k n x mg fa h) (hCX : ∀ (w : World) (H : Hp) (s : Shared) (e : Value) (s' : Shared), CX w [] H s (fun _ _ _ => False) e s' → False) :
    PySem.W.WalkO q loose XP YP l.row.toRowW d [] (fun f vs => PySem.call f vs) :=
  Att.attach_callB hn hdf fun w s₀ s₁ mg mb fa o pm cd doc a vs ns G Y ho hd hcd hmg hobj hints hlen hbits hg => by
    obtain ⟨K, KX, fd, cs, sp, z1, z2, z3, z4, z5, z6⟩ := F w mg fa _ Y G.T.g hmg
    exact law_callG KX G.T.g G.T.b G.T.builtins G.T.nolimit hg z1 z2 z3 G.T.bmain hobj hints (Nat.le_trans hlen hn2) hr z6 z4 (fun H h1 h2 => z5 H a ns hlen hbits h1 h2) fun H => hCX w H s₁
theorem roomG {k : Nat} (h : Room k callerA) : RoomG k callerA := ⟨h, rfl⟩
end Q
set_option maxHeartbeats 2000000
namespace Q
open PySem PySem.Spec PyProof.Rows L2
section
variable {X : Cx} {T : Tb} {ω : Wd} {S : Store} {pins : List (Addr × Obj)} {σ : L2.St} {H : Hp} {s : Shared}
structure Rk (P : Program) (w : World) (h : Heap) (u : Value) (p : PyData) : Prop where
  rd : ∃ as, Reads h u p as
  rk : ∃ bs, ReadAtMost h p.depth bs ∧ ReprK P w bs h p.depth u p.shown
structure Rks (P : Program) (w : World) (h : Heap) (us : List Value) (ps : List PyData) : Prop where
  rd : ∃ as, ReadsAll h us ps as
  rk : ∃ bs, ReadAtMost h (PyData.depthAll ps) bs ∧ ReprAllK P w bs h (PyData.depthAll ps) us (PyData.shownAll ps)
theorem Rks.nil {P : Program} {w : World} {h : Heap} : Rks P w h [] [] := ⟨⟨_, .nil⟩, [], (fun _ z => nomatch z), by simp only [PyData.shownAll]; exact .nil⟩
theorem Rks.cons {P : Program} {w : World} {h : Heap} {u : Value} {p : PyData} {us : List Value} {ps : List PyData} (a : Rk P w h u p) (b : Rks P w h us ps) : Rks P w h (u :: us) (p :: ps) := by
  obtain ⟨as, r1⟩ := a.rd
  obtain ⟨bs, r2⟩ := b.rd
  obtain ⟨cs, m1, k1⟩ := a.rk
  obtain ⟨es, m2, k2⟩ := b.rk
  refine ⟨⟨_, .cons r1 r2⟩, cs ++ es, ?_, ?_⟩
  · simp only [PyData.depthAll]
    exact (m1.mono (Nat.le_max_left _ _)).append (m2.mono (Nat.le_max_right _ _))
  · simp only [PyData.depthAll, PyData.shownAll]
    exact .cons ((k1.more fun b hb => List.mem_append_left _ hb).level_le (Nat.le_max_left _ _)) (k2.more_le (fun b hb => List.mem_append_right _ hb) (Nat.le_max_right _ _))
def Shows (P : Program) (w : World) (h : Heap) (u : Value) (p : PyData) : Prop := ∃ a T idr, u = .ref a ∧ SlotG T "__repr__" idr ∧ (∃ o, h.get? a = some o ∧ o.cls = .type T) ∧ ∀ (A : Around) (E : Value → Shared → Prop) (s : Shared) (Q : Value → Shared → Prop), s.heap = h → A.guards = some [] → A.units + p.depth < cLine →
  (∀ h' u tk, (∀ b o, s.heap.get? b = some o → h'.get? b = some o) → Q (.str p.shown u) { s with heap := h', toks := tk }) → wpAny (model P w) A (call (.builtin idr) [.ref a]) Q E s
theorem rk_tup {P : Program} {w : World} {h : Heap} {a : Addr} {o : Obj} {items : Array Value} {n : Nat} {ps : List PyData} (h1 : h.get? a = some o) (h2 : o.cls = .type "tuple") (h3 : o.data = .seq items n) (z : Rks P w h items.toList ps) (hz : (tupleText (PyData.shownAll ps)).length ≤ sizeLine) :
    Rk P w h (.ref a) (.tuple ps) ∧ Shows P w h (.ref a) (.tuple ps) := by
  obtain ⟨as, r⟩ := z.rd
  obtain ⟨bs, m, k⟩ := z.rk
  have rr : Reads h (.ref a) (.tuple ps) _ := .tuple h1 h2 h3 r
  have na : a ∉ bs := not_mem_of_deeper rr (by simp only [PyData.depth]; omega) m
  refine ⟨⟨⟨_, rr⟩, a :: bs, ReadAtMost.cons rr (by simp only [PyData.depth]; omega) m, ?_⟩, a, "tuple", _, rfl, F.slot_tuple_repr, ⟨o, h1, h2⟩, fun A E s Q e hg hu hQ => ?_⟩
  · simp only [PyData.depth, PyData.shown]
    exact ReprK.tuple h1 h2 h3 na k
  · simp only [PyData.depth] at hu
    simp only [PyData.shown] at hQ
    exact call_tuple_reprK h1 h2 h3 na k hg (fun b _ => Clear.nil b) hu (fun b o z => by rw [e]; exact z) hQ hz
theorem rk_lst {P : Program} {w : World} {h : Heap} {a : Addr} {o : Obj} {items : List Value} {n : Nat} {ps : List PyData} (h1 : h.get? a = some o) (h2 : o.cls = .type "list") (h3 : o.data = .seq items.toArray n) (z : Rks P w h items ps) (hz : (listText (PyData.shownAll ps)).length ≤ sizeLine) :
    Rk P w h (.ref a) (.list ps) ∧ Shows P w h (.ref a) (.list ps) := by
  obtain ⟨as, r⟩ := z.rd
  obtain ⟨bs, m, k⟩ := z.rk
  have rr : Reads h (.ref a) (.list ps) _ := .list h1 h2 h3 (by simpa using r)
  have na : a ∉ bs := not_mem_of_deeper rr (by simp only [PyData.depth]; omega) m
  cases items with
  | nil =>
    cases r
    have e0 : PyData.shown (.list []) = "[]" := by simp only [PyData.shown, PyData.shownAll, listText_nil]
    refine ⟨⟨⟨_, rr⟩, a :: bs, ReadAtMost.cons rr (by simp only [PyData.depth]; omega) m, ?_⟩, a, "list", _, rfl, F.slot_list_repr.toG, ⟨o, h1, h2⟩, fun A E s Q e hg hu hQ => ?_⟩
    · rw [e0]
      exact ReprK.listEmpty h1 h2 h3
    · rw [e0] at hQ
      exact call_list_repr_empty ⟨o, by rw [e]; exact h1, h2⟩ (by rw [e]; exact h1) h3 (hQ s.heap _ _ fun _ _ z => z)
  | cons x l =>
    have hl : (PyData.shownAll ps).length = (x :: l).toArray.size := by simpa using k.length_eq
    refine ⟨⟨⟨_, rr⟩, a :: bs, ReadAtMost.cons rr (by simp only [PyData.depth]; omega) m, ?_⟩, a, "list", _, rfl, F.slot_list_repr.toG, ⟨o, h1, h2⟩, fun A E s Q e hg hu hQ => ?_⟩
    · simp only [PyData.depth, PyData.shown]
      exact ReprK.list h1 h2 h3 na hl fun i y e => k.item i y (by simpa using e)
    · simp only [PyData.depth] at hu
      simp only [PyData.shown] at hQ
      exact call_list_reprK h1 h2 h3 na hl (fun i y e => k.item i y (by simpa using e)) hg (fun b _ => Clear.nil b) hu (fun b o z => by rw [e]; exact z) hQ hz
theorem rk_dct {P : Program} {w : World} {h : Heap} {a : Addr} {o : Obj} {es : Array DictEntry} {n : Nat} {ps : List (PyData × PyData)} (hs : (a == sysModules) = false) (h1 : h.get? a = some o) (h2 : o.cls = .type "dict") (h3 : o.data = .dict es n) (z1 : Rks P w h (es.toList.map (·.key)) (ps.map (·.1)))
    (z2 : Rks P w h (es.toList.map (·.val)) (ps.map (·.2))) (hz : (dictText (PyData.shownKv ps)).length ≤ sizeLine) : Rk P w h (.ref a) (.dict ps) ∧ Shows P w h (.ref a) (.dict ps) := by
  obtain ⟨as, r1⟩ := z1.rd
  obtain ⟨bs, r2⟩ := z2.rd
  obtain ⟨cs, m1, k1⟩ := z1.rk
  obtain ⟨ds, m2, k2⟩ := z2.rk
  have rr : Reads h (.ref a) (.dict ps) _ := .dict h1 h2 h3 r1 r2
  have m : ReadAtMost h (PyData.depthKv ps) (cs ++ ds) := (m1.mono (PyData.depthAll_keys_le ps)).append (m2.mono (PyData.depthAll_vals_le ps))
  have na : a ∉ cs ++ ds := not_mem_of_deeper rr (by simp only [PyData.depth]; omega) m
  have k : ReprEntriesK P w (cs ++ ds) h (PyData.depthKv ps) es.toList _ := ReprEntriesK.of_two es.toList _ _ (k1.more_le (fun b hb => List.mem_append_left _ hb) (PyData.depthAll_keys_le ps)) (k2.more_le (fun b hb => List.mem_append_right _ hb) (PyData.depthAll_vals_le ps))
  refine ⟨⟨⟨_, rr⟩, a :: (cs ++ ds), ReadAtMost.cons rr (by simp only [PyData.depth]; omega) m, ?_⟩, a, "dict", _, rfl, F.slot_dict_repr, ⟨o, h1, h2⟩, fun A E s Q e hg hu hQ => ?_⟩
  · simp only [PyData.depth, PyData.shown, PyData.shownKv_eq]
    exact ReprK.dict h1 h2 h3 hs na k
  · simp only [PyData.depth] at hu
    simp only [PyData.shown, PyData.shownKv_eq] at hQ
    exact call_dict_reprK h1 h2 h3 hs na k hg (fun b _ => Clear.nil b) hu (fun b o z => by rw [e]; exact z) hQ (by rw [← PyData.shownKv_eq]; exact hz)
theorem rk_key {P : Program} {w : World} {h : Heap} {k : Key} {u : Value} (hk : (mixKind P w).is k u = true) (hs : (keyP k).showable = true) (hz : (keyP k).shown.length ≤ sizeLine) :
    Rk P w h u (keyP k) := by
  rcases keyIs_shape (show keyIs k u = true from hk) with ⟨i, t, rfl, rfl⟩ | ⟨x, t, rfl, rfl⟩
  · exact ⟨⟨_, .int i t⟩, [], (fun _ z => nomatch z), by simp only [keyP, PyData.shown]; exact .of_is (ReprIs.int t (by simpa [keyP, PyData.showable] using hs)) _ _ _⟩
  · exact ⟨⟨_, .str x t⟩, [], (fun _ z => nomatch z), by simp only [keyP, PyData.shown]; exact .of_is (ReprIs.str x t (by simpa only [keyP, PyData.shown] using hz)) _ _ _⟩
structure RkD (P : Program) (w : World) (h : Heap) (u : Value) (p : PyData) : Prop where
  rk : Rk P w h u p
  sh : Shows P w h u p ∨ ∀ a, u ≠ .ref a
theorem pairs_vals {P : Program} {w : World} : ∀ {es : List DictEntry} {zs : List (Key × Value)}, Pairs (mixKind P w) es zs → es.map (·.val) = zs.map (·.2)
  | [], _, .nil => rfl
  | _ :: _, _, .cons h1 h2 r => by rw [List.map_cons, List.map_cons, h2, pairs_vals r]
mutual
theorem rkD (I : Inv X pins σ H s) (rl : Rl X.K T ω S H) : ∀ (d : D) (v : V) (u : Value) (p : PyData), Rp X.K T ω d v → RelV v u → d.rd = some p → p.showable = true → p.shown.length ≤ sizeLine → RkD X.prog X.w s.heap u p
  | .non, v, u, p, r, rv, e, hs, hz => by
    rw [r.non] at rv
    cases rv
    cases e
    exact ⟨⟨⟨_, .none⟩, [], (fun _ z => nomatch z), by simp only [PyData.shown]; exact .of_is ReprIs.none _ _ _⟩, .inr fun a z => nomatch z⟩
  | .bl b, v, u, p, r, rv, e, hs, hz => by
    rw [r.bl] at rv
    cases rv
    cases e
    exact ⟨⟨⟨_, .bool b⟩, [], (fun _ z => nomatch z), by simp only [PyData.shown]; exact .of_is (ReprIs.bool b) _ _ _⟩, .inr fun a z => nomatch z⟩
  | .int i, v, u, p, r, rv, e, hs, hz => by
    rw [r.int] at rv
    obtain ⟨t, rfl⟩ := rv
    cases e
    exact ⟨⟨⟨_, .int i t⟩, [], (fun _ z => nomatch z), by simp only [PyData.shown]; exact .of_is (ReprIs.int t (by simpa [PyData.showable] using hs)) _ _ _⟩, .inr fun a z => nomatch z⟩
  | .str x, v, u, p, r, rv, e, hs, hz => by
    rw [r.str] at rv
    obtain ⟨t, rfl⟩ := rv
    cases e
    exact ⟨⟨⟨_, .str x t⟩, [], (fun _ z => nomatch z), by simp only [PyData.shown]; exact .of_is (ReprIs.str x t (by simpa only [PyData.shown] using hz)) _ _ _⟩, .inr fun a z => nomatch z⟩
  | .tup ds, v, u, p, r, rv, e, hs, hz => by
    obtain ⟨a, vs, rfl, q, rs⟩ := Rp.tup rl r
    cases rv
    unfold D.rd at e
    cases e1 : rds ds with
    | none => rw [e1] at e; cases e
    | some ps =>
      rw [e1] at e
      cases e
      have hz' : (tupleText (PyData.shownAll ps)).length ≤ sizeLine := by simpa only [PyData.shown] using hz
      obtain ⟨its, rv, ⟨o, ho, hc, n, hd⟩, _⟩ := I.tuple q
      have z := rkDs I rl ds vs its ps rs rv e1 (by simpa [PyData.showable] using hs) fun t ht => Nat.le_trans (tupleText_mem_le ht) hz'
      obtain ⟨z1, z2⟩ := rk_tup ho hc hd (by simpa using z) hz'
      exact ⟨z1, .inl z2⟩
  | .lst ds, v, u, p, r, rv, e, hs, hz => by
    obtain ⟨a, vs, rfl, q, rs⟩ := Rp.lst rl r
    cases rv
    unfold D.rd at e
    cases e1 : rds ds with
    | none => rw [e1] at e; cases e
    | some ps =>
      rw [e1] at e
      cases e
      have hz' : (listText (PyData.shownAll ps)).length ≤ sizeLine := by simpa only [PyData.shown] using hz
      obtain ⟨its, rv, ⟨o, n, ho, hc, _, hd⟩, _⟩ := I.list (SqL.of q)
      have z := rkDs I rl ds vs its ps rs rv e1 (by simpa [PyData.showable] using hs) fun t ht => Nat.le_trans (listText_mem_le ht) hz'
      obtain ⟨z1, z2⟩ := rk_lst ho hc hd z hz'
      exact ⟨z1, .inl z2⟩
  | .dct kvs, v, u, p, r, rv, e, hs, hz => by
    unfold Rp at r
    obtain ⟨a, ws, rfl, q, rs⟩ := r
    cases rv
    unfold D.rd at e
    cases e1 : rdk kvs with
    | none => rw [e1] at e; cases e
    | some ps =>
      rw [e1] at e
      cases e
      have hz' : (dictText (PyData.shownKv ps)).length ≤ sizeLine := by simpa only [PyData.shown] using hz
      obtain ⟨_, hsm, zs, kv, o, es, ep, ho, hx, hd, _, pr, _⟩ := dk_of I.hok (rl.sub _ _ q)
      obtain ⟨s1, s2⟩ := PyData.showableKv_split ps (by simpa [PyData.showable] using hs)
      obtain ⟨k1, k2⟩ := rkDk I rl kvs ws zs ps es.toList rs kv pr e1 s1 s2 (fun t ht => let ⟨p, hp, hl⟩ := PyData.shownKv_key_le ps t ht; Nat.le_trans hl (Nat.le_trans (dictText_mem_le hp) hz')) (fun t ht => let ⟨p, hp, hl⟩ := PyData.shownKv_val_le ps t ht; Nat.le_trans hl (Nat.le_trans (dictText_mem_le hp) hz'))
      obtain ⟨z1, z2⟩ := rk_dct hsm ho hx.1 hd k1 k2 hz'
      exact ⟨z1, .inl z2⟩
  | .ins _ _, v, u, p, r, rv, e, hs, hz => by cases e
  | .ptr _, v, u, p, r, rv, e, hs, hz => by cases e
  | .obj _, v, u, p, r, rv, e, hs, hz => by cases e
  | .src _, v, u, p, r, rv, e, hs, hz => by cases e
  | .fn _, v, u, p, r, rv, e, hs, hz => by cases e
  | .exc _ _, v, u, p, r, rv, e, hs, hz => by cases e
theorem rkDs (I : Inv X pins σ H s) (rl : Rl X.K T ω S H) : ∀ (ds : List D) (vs : List V) (us : List Value) (ps : List PyData), Rps X.K T ω ds vs → Vals vs us → rds ds = some ps → PyData.showableAll ps = true → (∀ t ∈ PyData.shownAll ps, t.length ≤ sizeLine) → Rks X.prog X.w s.heap us ps
  | [], vs, us, ps, r, rv, e, hs, hz => by
    unfold Rps at r
    subst r
    cases rv
    cases e
    exact Rks.nil
  | d :: ds, vs, us, ps, r, rv, e, hs, hz => by
    unfold Rps at r
    obtain ⟨v, ws, rfl, r1, r2⟩ := r
    cases rv with
    | cons ru rn =>
      unfold rds at e
      cases e1 : d.rd with
      | none => simp [e1] at e
      | some p1 => cases e2 : rds ds with
        | none => simp [e1, e2] at e
        | some p2 =>
          simp [e1, e2] at e
          subst e
          have hs' : p1.showable = true ∧ PyData.showableAll p2 = true := by simpa [PyData.showableAll] using hs
          exact .cons (rkD I rl d v _ p1 r1 ru e1 hs'.1 (hz _ (by simp only [PyData.shownAll]; exact List.mem_cons_self ..))).rk (rkDs I rl ds ws _ p2 r2 rn e2 hs'.2 fun t ht => hz t (by simp only [PyData.shownAll]; exact List.mem_cons_of_mem _ ht))
theorem rkDk (I : Inv X pins σ H s) (rl : Rl X.K T ω S H) : ∀ (kvs : List (Key × D)) (ws : List (Key × V)) (zs : List (Key × Value)) (ps : List (PyData × PyData)) (es : List DictEntry), Rpk X.K T ω kvs ws → KV ws zs → Pairs (mixKind X.prog X.w) es zs → rdk kvs = some ps → PyData.showableAll (ps.map (·.1)) = true → PyData.showableAll (ps.map (·.2)) = true →
    (∀ t ∈ PyData.shownAll (ps.map (·.1)), t.length ≤ sizeLine) → (∀ t ∈ PyData.shownAll (ps.map (·.2)), t.length ≤ sizeLine) → Rks X.prog X.w s.heap (es.map (·.key)) (ps.map (·.1)) ∧ Rks X.prog X.w s.heap (es.map (·.val)) (ps.map (·.2))
  | [], ws, zs, ps, es, r, kv, pr, e, s1, s2, l1, l2 => by
    unfold Rpk at r
    subst r
    cases kv
    cases pr
    cases e
    exact ⟨Rks.nil, Rks.nil⟩
  | (k, d) :: kvs, ws, zs, ps, es, r, kv, pr, e, s1, s2, l1, l2 => by
    unfold Rpk at r
    obtain ⟨v, hs, rfl, r1, r2⟩ := r
    cases kv with
    | cons ru rn =>
      cases pr with
      | cons h1 h2 h3 =>
        unfold rdk at e
        cases e1 : d.rd with
        | none => simp [e1] at e
        | some p1 => cases e2 : rdk kvs with
          | none => simp [e1, e2] at e
          | some p2 =>
            simp only [e1, e2, Option.some.injEq] at e
            subst e
            simp only [List.map_cons, PyData.showableAll, Bool.and_eq_true, PyData.shownAll] at s1 s2 l1 l2
            obtain ⟨q1, q2⟩ := rkDk I rl kvs hs _ p2 _ r2 rn h3 e2 s1.2 s2.2 (fun t ht => l1 t (List.mem_cons_of_mem _ ht)) (fun t ht => l2 t (List.mem_cons_of_mem _ ht))
            obtain ⟨x1, x2⟩ := ru
            simp only at x1 x2
            simp only [List.map_cons]
            rw [← x1] at h1
            rw [h2]
            exact ⟨.cons (rk_key h1 s1.1 (l1 _ (List.mem_cons_self ..))) q1, .cons (rkD I rl d v _ p1 r1 x2 e1 s2.1 (l2 _ (List.mem_cons_self ..))).rk q2⟩
end
def rRepr (K : PySem.W.Frag) : List V → Hp → VK → Prop := fun vs H Qv => ∃ (T : Tb) (ω : Wd) (S : Store) (d : D) (v : V) (p : PyData), vs = [v] ∧ Rl K T ω S H ∧ Rp K T ω d v ∧ d.rd = some p ∧ p.showable = true ∧ p.shown.length ≤ sizeLine ∧ p.depth ≤ 150 ∧ Qv (.str p.shown) H
theorem cr_repr (hu : X.A.units + 200 < cLine) (hg : X.A.guards = some []) : CallR X (.builtin "repr") (rRepr X.K) := by
  intro pins s σ H xs us Qv I r h
  obtain ⟨T, ω, S, d, v, p, rfl, rl, rp, e, hs, hz, hd, q⟩ := h
  obtain ⟨u, rfl, ru⟩ : ∃ u, us = [u] ∧ RelV v u := by
    cases r with
    | cons a b =>
      cases b
      exact ⟨_, rfl, a⟩
  have z := rkD I rl d v u p rp ru e hs hz
  rcases z.sh with ⟨a, Ty, idr, rfl, sl, ⟨o, ho, hc⟩, run⟩ | nr
  · refine call_repr_slot (by omega) ⟨o, ho, hc⟩ sl (run X.A.in1 _ s _ rfl hg (by show X.A.units + 1 + p.depth < cLine; omega) fun h' t tk hk => ⟨_, _, rfl, ?_⟩)
    exact ⟨.str p.shown, H, I.kept hk, ⟨t, rfl⟩, q⟩
  · cases d with
    | non =>
      rw [rp.non] at ru
      cases ru
      cases e
      simp only [PyData.shown] at q
      exact PySem.P.repr_of_none ⟨.str _, H, I.tok _, ⟨_, rfl⟩, q⟩
    | bl b =>
      rw [rp.bl] at ru
      cases ru
      cases e
      simp only [PyData.shown] at q
      exact PySem.P.repr_of_bool ⟨.str _, H, I.tok _, ⟨_, rfl⟩, q⟩
    | int i =>
      rw [rp.int] at ru
      obtain ⟨t, rfl⟩ := ru
      cases e
      simp only [PyData.shown] at q
      exact PySem.P.repr_of_int (by simpa [PyData.showable] using hs) ⟨.str _, H, I.tok _, ⟨_, rfl⟩, q⟩
    | str x =>
      rw [rp.str] at ru
      obtain ⟨t, rfl⟩ := ru
      cases e
      simp only [PyData.shown] at q hz
      exact PySem.P.repr_of_str ⟨.str _, H, I.tok _, ⟨_, rfl⟩, q⟩ hz
    | tup ds =>
      obtain ⟨a, vs, rfl, _⟩ := Rp.tup rl rp
      cases ru
      exact absurd rfl (nr a)
    | lst ds =>
      obtain ⟨a, vs, rfl, _⟩ := Rp.lst rl rp
      cases ru
      exact absurd rfl (nr a)
    | dct ds =>
      unfold Rp at rp
      obtain ⟨a, vs, rfl, _⟩ := rp
      cases ru
      exact absurd rfl (nr a)
    | _ => cases e
end
theorem ok_repr {K : PySem.W.Frag} {T : Tx} : OkN K T (rRepr K) oRepr := by
  intro ω S H xs us Qv rl r q
  unfold oRepr at q
  split at q
  · obtain ⟨v, rfl, r1⟩ := r.one
    split at q
    · rename_i x p hp
      split at q
      · rename_i hc
        simp only [Bool.and_eq_true, decide_eq_true_eq] at hc
        exact ⟨T.toTb, ω, S, _, v, p, rfl, rl, r1, hp, hc.1.1, hc.1.2, hc.2, q.now rl (Rp.mstr _)⟩
      · exact q.elim
    · exact q.elim
  · exact q.elim
end Q
set_option maxHeartbeats 2000000
namespace Q
open PySem PySem.SeqAt AutoSeq1 MeetsSeq
theorem dict_declines (l : Addr) (es : Array DictEntry) (n : Nat) (dd : Option Addr) (sl : Array (Option Value)) (b : Int) (u : Tok) :
    Meets (Builtin.«dict.__eq__» ⟨[.ref l, .int b u], []⟩) (fun _ R s => s.heap.get? l = some { cls := .type "dict", dict := dd, data := .dict es n, slots := sl } ∧ R (.ok (.ret .notImplemented)) s) :=
  .of_wp fun prog w A R s h => by
    obtain ⟨hp, g, d, tk, os⟩ := s
    obtain ⟨hl, h⟩ := h
    have f1 := F.sub_int_dict
    wp_walk using wpAny_loadPart' hl
    exact ⟨_, rfl, h⟩
theorem int_declines_dict (b : Int) (u : Tok) (l : Addr) (es : Array DictEntry) (n : Nat) (dd : Option Addr) (sl : Array (Option Value)) :
    Meets (Builtin.«int.__eq__» ⟨[.int b u, .ref l], []⟩) (fun _ R s => s.heap.get? l = some { cls := .type "dict", dict := dd, data := .dict es n, slots := sl } ∧ R (.ok (.ret .notImplemented)) s) :=
  .of_wp fun prog w A R s h => by
    obtain ⟨hp, g, d, tk, os⟩ := s
    obtain ⟨hl, h⟩ := h
    wp_walk using wpAny_loadPart' hl, wpAny_load hl
    exact ⟨_, rfl, h⟩
theorem rc_dict_int {A : Around} {s : Shared} {l : Addr} {o : Obj} {es : Array DictEntry} {n : Nat} (b : Int) (u : Tok) (ho : s.heap.get? l = some o) (hc : o.cls = .type "dict") (hd : o.data = .dict es n) (hu : A.units < cLine) : RcAt A s (.ref l) (.int b u) false := fun prog w E Q h => by
  obtain ⟨cls, dd, data, sl⟩ := o
  simp only at hc hd
  subst hc hd
  exact rc_eq_decline_or (k := false) ⟨_, ho, rfl⟩ (typeIs_int s b u) (by decide) F.sub_int_dict F.slot_dict_eq F.slot_int_eq_refl (fun _ hq => call_meets F.slot_dict_eq ⟨_, ho, rfl⟩ F.entry_dict_eq (F.args_dict_eq_2 _ _) (dict_declines l es n dd sl b u) ⟨ho, hq⟩)
    (fun _ hq => call_meets F.slot_int_eq_refl (typeIs_int s b u) F.entry_int_eq (F.args_int_eq_2 _ _) (int_declines_dict b u l es n dd sl) ⟨ho, hq⟩) (fun _ hq => wpAny_of_eq (rfl : isSame (.ref l) (.int b u) = pure false) hq) (.inr hu) h
open PySem.Spec PyProof.Rows L2
section
variable {X : Cx}
def rEqK (K : PySem.W.Frag) : R2 := fun x y H Qv => ∃ (a : Addr) (j : Int), x = .ref a ∧ y = .int j ∧ ((∃ vs, SqL K H a vs) ∨ (∃ vs, SqT K H a vs) ∨ ∃ kvs, H a = some (.dK kvs)) ∧ Qv (.bl false) H
theorem op_eqK (hu : X.A.units + 64 < cLine) : OpR X (compareOp .Eq) (rEqK X.K) := by
  intro pins s σ H x y v u Qv I rx ry h
  obtain ⟨a, j, rfl, rfl, hk, q⟩ := h
  cases rx
  obtain ⟨t, rfl⟩ := ry
  have fin : EP X pins σ Qv (.bool false) s := ⟨.bl false, H, I, rfl, q⟩
  rcases hk with ⟨vs, hs⟩ | ⟨vs, hs⟩ | ⟨kvs, hs⟩
  · obtain ⟨its, rv, ⟨o, n, ho, hc, _, hd⟩, _⟩ := I.list hs
    exact RcAt.list_int (items := its.toArray) j t ⟨o, ho, hc, n, hd⟩ (by omega) _ _ _ _ fin
  · obtain ⟨its, rv, ⟨o, ho, hc, n, hd⟩, _⟩ := I.tuple hs
    exact RcAt.tuple_int (items := its.toArray) j t ⟨o, ho, hc, n, hd⟩ (by omega) _ _ _ _ fin
  · obtain ⟨_, hsm, zs, kv, o, es, ep, ho, hx, hd, _⟩ := dk_of I.hok hs
    exact rc_dict_int j t ho hx.1 hd (by omega) _ _ _ _ fin
end
def rEqB (K : PySem.W.Frag) : R2 := fun x y H Qv => rEqK K x y H Qv ∨ rEqA K x y H Qv
theorem or_eqK {X : Cx} (hu : X.A.units + 64 < cLine) : OpR X (compareOp .Eq) (rEqB X.K) := (op_eqK hu).or (or_eq hu)
theorem ok_eqK {K : PySem.W.Frag} {T : Tx} : Ok2 K T (rEqB K) oEqK := by
  intro ω S H x y u v Qv rl rx ry q
  unfold oEqK at q
  split at q
  · obtain ⟨a, vs, rfl, h, _⟩ := Rp.tup rl rx
    exact .inl ⟨a, _, rfl, ry.int, .inr (.inl ⟨vs, h⟩), q.now rl (Rp.mbl _)⟩
  · obtain ⟨a, vs, rfl, h, _⟩ := Rp.lst rl rx
    exact .inl ⟨a, _, rfl, ry.int, .inl ⟨vs, SqL.of h⟩, q.now rl (Rp.mbl _)⟩
  · unfold Rp at rx
    obtain ⟨a, vs, rfl, h, _⟩ := rx
    exact .inl ⟨a, _, rfl, ry.int, .inr (.inr ⟨vs, rl.sub _ _ h⟩), q.now rl (Rp.mbl _)⟩
  · exact .inr (ok_eq ω S H x y u v Qv rl rx ry q)
end Q
namespace Q
open PySem L2
def b_is_integer : CallT → TSt := fun c => tRet (eAnd (e1 (oIsi [.int]) (eV 0)) (eNot (e1 (oIsi [.bool]) (eV 0))))
def f_is_integer : FnD := ⟨1, 1, true, b_is_integer⟩
def b_is_within : CallT → TSt := fun c => tRet (eAnd (eCall c 1 [eV 0]) (eChain oLe oLe (eV 1) (eV 0) (eV 2)))
def f_is_within : FnD := ⟨3, 3, true, b_is_within⟩
def w_common_0 (c : CallT) : TSt := tSet (.tp [.nm 0, .nm 1]) (eTup [eV 1, e2 oMod (eV 0) (eV 1)])
def b_common : CallT → TSt := fun c => tSeq (tSet (.tp [.nm 0, .nm 1]) (eTup [eN oAbs [eV 0], eN oAbs [eV 1]])) (tSeq (tWhile (e2 oGt (eV 1) (eC (.int 0))) (w_common_0 c)) (tRet (eV 0)))
def f_common : FnD := ⟨2, 2, true, b_common⟩
def b_frac : CallT → TSt := fun c => tSeq (tSet (.nm 2) (eCall c 4 [eV 0, eV 1])) (tSeq (tIf (e2 oLt (eV 1) (eC (.int 0))) (tSet (.nm 2) (e1 oNeg (eV 2))) (tPass)) (tRet (eTup [e2 oDiv (eV 0) (eV 2), e2 oDiv (eV 1) (eV 2)])))
def f_frac : FnD := ⟨2, 3, true, b_frac⟩
def w_is_signs_0 (c : CallT) : TE := e2 oIn (eV 1) (eTup [eC (.str "0"), eC (.str "1")])
def b_is_signs : CallT → TSt := fun c => tRet (eAnd (e1 (oIsi [.str]) (eV 0)) (eAnd (e2 oGt (eN oLen [eV 0]) (eC (.int 0))) (eN oAll [eLc [1] (.nm 1) (sSeq (eV 0)) (eC (.bl true)) (w_is_signs_0 c)])))
def f_is_signs : FnD := ⟨1, 2, true, b_is_signs⟩
def b_is_row : CallT → TSt := fun c => tRet (eAnd (eCall c 13 [eV 0]) (e2 oLe (eN oLen [eV 0]) (eC (.int 500))))
def f_is_row : FnD := ⟨1, 1, true, b_is_row⟩
def b_check_row : CallT → TSt := fun c => tIf (eNot (eCall c 14 [eV 0])) (tRaise 4) (tPass)
def f_check_row : FnD := ⟨1, 1, true, b_check_row⟩
def w_sums_of_0 (c : CallT) : TSt := tExpr (eM isLstD oAppend (eV 1) [e2 oAdd (e2 oIx (eV 1) (e1 oNeg (eC (.int 1)))) (eIf (e2 oEq (eV 2) (eC (.str "1"))) (eC (.int 1)) (eC (.int 0)))])
def b_sums_of : CallT → TSt := fun c => tSeq (tSet (.nm 1) (eLstM [eC (.int 0)])) (tSeq (tFor (.nm 2) (sSeq (eV 0)) (w_sums_of_0 c)) (tFrz 1 (tRet (eV 1))))
def f_sums_of : FnD := ⟨1, 3, false, b_sums_of⟩
def w_pair_of_length_0 (c : CallT) : TE := e2 oSub (e2 oIx (eV 0) (e2 oAdd (eV 5) (eV 1))) (e2 oIx (eV 0) (eV 5))
def w_pair_of_length_1 (c : CallT) : TE := eV 5
def w_pair_of_length_2 (c : CallT) : TE := eV 5
def b_pair_of_length : CallT → TSt := fun c => tSeq (tSet (.nm 2) (eLc [5] (.nm 5) (sN iRng1 [e2 oSub (eN oLen [eV 0]) (eV 1)]) (eC (.bl true)) (w_pair_of_length_0 c))) (tSeq (tSet (.nm 3) (eN oMinL [eV 2])) (tSeq (tIf (e2 oLt (e2 oSub (eN oMaxL [eV 2]) (eV 3)) (eC (.int 2))) (tRet (eC .non)) (tPass)) (tSeq (tSet (.nm 4) (e2 oIx (eLc [5, 6] (.tp [.nm 5, .nm 6]) (sN iEnum [eV 2]) (e2 oGe (e2 oSub (eV 6) (eV 3)) (eC (.int 2))) (w_pair_of_length_1 c)) (eC (.int 0)))) (tRet (eTup [eV 4, e2 oIx (eLc [5, 6] (.tp [.nm 5, .nm 6]) (sN iEnum [eV 2]) (e2 oGe (e2 oSub (e2 oIx (eV 2) (eV 4)) (eV 6)) (eC (.int 2))) (w_pair_of_length_2 c)) (eC (.int 0))])))))
def f_pair_of_length : FnD := ⟨2, 7, true, b_pair_of_length⟩
def w_first_pair_0 (c : CallT) : TSt := tSeq (tSet (.nm 3) (eCall c 20 [eV 1, eV 2])) (tIf (e1 oNotN (eV 3)) (tRet (eTup [e2 oIx (eV 3) (eC (.int 0)), e2 oIx (eV 3) (eC (.int 1)), eV 2])) (tPass))
def b_first_pair : CallT → TSt := fun c => tSeq (tSet (.nm 1) (eCall c 16 [eV 0])) (tSeq (tFor (.nm 2) (sN iRng2 [eC (.int 1), eN oLen [eV 0]]) (w_first_pair_0 c)) (tRet (eC .non)))
def f_first_pair : FnD := ⟨1, 4, true, b_first_pair⟩
def b_is_even : CallT → TSt := fun c => tRet (eAnd (eCall c 14 [eV 0]) (e1 oIsN (eCall c 21 [eV 0])))
def f_is_even : FnD := ⟨1, 1, true, b_is_even⟩
def b_total_to : CallT → TSt := fun c => tSeq (tSet (.tp [.nm 2, .nm 3]) (eV 0)) (tRet (e2 oDiv (e2 oAdd (e2 oMulL (e2 oMulL (eV 1) (e2 oIx (eV 2) (eC (.int 0)))) (e2 oIx (eV 3) (eC (.int 1)))) (e2 oMulL (e2 oIx (eV 3) (eC (.int 0))) (e2 oIx (eV 2) (eC (.int 1))))) (e2 oMulL (e2 oIx (eV 2) (eC (.int 1))) (e2 oIx (eV 3) (eC (.int 1))))))
def f_total_to : FnD := ⟨2, 4, true, b_total_to⟩
def w_row_of_0 (c : CallT) : TE := eCall c 64 [eV 0, e2 oAdd (eV 1) (eV 4)]
def w_row_of_1 (c : CallT) : TE := eIf (e2 oGt (e2 oIx (eV 3) (e2 oAdd (eV 4) (eC (.int 1)))) (e2 oIx (eV 3) (eV 4))) (eC (.str "1")) (eC (.str "0"))
def b_row_of : CallT → TSt := fun c => tSeq (tSet (.nm 3) (eLc [4] (.nm 4) (sN iRng1 [e2 oAdd (eV 2) (eC (.int 1))]) (eC (.bl true)) (w_row_of_0 c))) (tRet (eM isStrD oJoin (eC (.str "")) [eLc [4] (.nm 4) (sN iRng1 [eV 2]) (eC (.bl true)) (w_row_of_1 c)]))
def f_row_of : FnD := ⟨3, 5, true, b_row_of⟩
def w_pair_round_0 (c : CallT) : TSt := tSeq (tSet (.nm 3) (eCall c 20 [eCutU (eV 1) (e2 oAdd (eN oLen [eV 0]) (eV 2)), eV 2])) (tIf (e1 oNotN (eV 3)) (tRet (eTup [e2 oIx (eV 3) (eC (.int 0)), e2 oIx (eV 3) (eC (.int 1)), eV 2])) (tPass))
def b_pair_round : CallT → TSt := fun c => tSeq (tSet (.nm 1) (eCall c 16 [e2 oAdd (eV 0) (eV 0)])) (tSeq (tFor (.nm 2) (sN iRng2 [eC (.int 1), eN oLen [eV 0]]) (w_pair_round_0 c)) (tRet (eC .non)))
def f_pair_round : FnD := ⟨1, 4, true, b_pair_round⟩
def b_least_of : CallT → TSt := fun c => tRet (eCall c 65 [eTup [eCall c 6 [eV 1, eV 0], eC (.tup [(.int 0), (.int 1)])], eC (.int 0), eV 0])
def f_least_of : FnD := ⟨2, 2, true, b_least_of⟩
def b_least_round : CallT → TSt := fun c => tSeq (tIf (eOr (eNot (eCall c 2 [eV 0, eC (.int 1), eC (.int 500)])) (eNot (eCall c 2 [eV 1, eC (.int 0), eV 0]))) (tRaise 3) (tPass)) (tRet (eCall c 69 [eV 0, eV 1]))
def f_least_round : FnD := ⟨2, 2, true, b_least_round⟩
def w_complement_0 (c : CallT) : TE := eIf (e2 oEq (eV 1) (eC (.str "1"))) (eC (.str "0")) (eC (.str "1"))
def b_complement : CallT → TSt := fun c => tSeq (tExpr (eCall c 15 [eV 0])) (tRet (eM isStrD oJoin (eC (.str "")) [eLc [1] (.nm 1) (sSeq (eV 0)) (eC (.bl true)) (w_complement_0 c)]))
def f_complement : FnD := ⟨1, 2, true, b_complement⟩
def b_mirrored : CallT → TSt := fun c => tSeq (tExpr (eCall c 15 [eV 0])) (tRet (e1 oRev (eV 0)))
def f_mirrored : FnD := ⟨1, 1, true, b_mirrored⟩
def w_law_hand_v7_0 (c : CallT) : TE := eN oAbs [eN oInt [eV 2]]
def b_law_hand_v7 : CallT → TSt := fun c => tSeq (tSet (.nm 1) (eLc [2] (.nm 2) (sSeq (eCutU (eV 0) (eC (.int 63)))) (eC (.bl true)) (w_law_hand_v7_0 c))) (tRet (eLstM [eV 1, eC (.int 0), eC (.int 0), e2 oAdd (eC (.int 173)) (e2 oMulL (eC (.int 3)) (eN oLen [eV 1])), eC (.int 0)]))
def f_law_hand_v7 : FnD := ⟨1, 3, true, b_law_hand_v7⟩
def b_law_draw_v3 : CallT → TSt := fun c => tSeq (tIf (eAnd (e2 oEq (e2 oIx (eV 0) (eC (.int 2))) (eC (.int 0))) (e2 oLt (e2 oIx (eV 0) (eC (.int 1))) (eN oLen [e2 oIx (eV 0) (eC (.int 0))]))) (tSeq (tSet (.nm 2) (e2 oIx (e2 oIx (eV 0) (eC (.int 0))) (e2 oIx (eV 0) (eC (.int 1))))) (tSeq (tSetIx (eV 0) (eC (.int 1)) (e2 oAdd (e2 oIx (eV 0) (eC (.int 1))) (eC (.int 1)))) (tSeq (tSetIx (eV 0) (eC (.int 3)) (e2 oMod (eN oInt [e2 oAdd (e2 oAdd (e2 oMulL (e2 oIx (eV 0) (eC (.int 3))) (eC (.int 69621))) (e2 oMulL (eV 2) (eC (.int 40692)))) (eC (.int 137))]) (eC (.int 2147483629)))) (tIf (e2 oGe (eV 2) (e2 oPow (eC (.int 10)) (eC (.int 18)))) (tSetIx (eV 0) (eC (.int 2)) (eV 2)) (tPass))))) (tPass)) (tSeq (tIf (e2 oGt (e2 oIx (eV 0) (eC (.int 2))) (eC (.int 0))) (tSeq (tSet (.nm 3) (e2 oMod (eN oInt [e2 oIx (eV 0) (eC (.int 2))]) (eV 1))) (tSeq (tSetIx (eV 0) (eC (.int 2)) (e2 oDiv (e2 oIx (eV 0) (eC (.int 2))) (eV 1))) (tRet (eV 3)))) (tPass)) (tSeq (tSetIx (eV 0) (eC (.int 4)) (e2 oAdd (e2 oIx (eV 0) (eC (.int 4))) (eC (.int 1)))) (tSeq (tSet (.nm 4) (e2 oMod (eN oInt [e2 oMulL (eN oInt [e2 oAdd (e2 oIx (eV 0) (eC (.int 3))) (e2 oMulL (eC (.int 7919)) (e2 oIx (eV 0) (eC (.int 4))))]) (eC (.int 48271))]) (eC (.int 2147483647)))) (tSeq (tSet (.nm 4) (e2 oMod (eN oInt [e2 oMulL (eV 4) (e2 oAdd (e2 oDiv (eV 4) (eC (.int 1009))) (eC (.int 69621)))]) (eC (.int 2147483647)))) (tSeq (tSet (.nm 4) (e2 oMod (eN oInt [e2 oMulL (eV 4) (e2 oAdd (e2 oDiv (eV 4) (eC (.int 2003))) (eC (.int 40014)))]) (eC (.int 2147483563)))) (tRet (e2 oMod (eN oInt [e2 oDiv (eV 4) (eC (.int 16))]) (eV 1))))))))
def f_law_draw_v3 : FnD := ⟨2, 5, true, b_law_draw_v3⟩
def b_law_any_v2 : CallT → TSt := fun c => tRet (e2 oIx (eV 1) (eCall c 232 [eV 0, eN oLen [eV 1]]))
def f_law_any_v2 : FnD := ⟨2, 2, true, b_law_any_v2⟩
def w_law_same_v2_0 (c : CallT) : TE := eCall c 234 [eV 2, eV 3]
def b_law_same_v2 : CallT → TSt := fun c => tSeq (tIf (e1 (oIsi [.tuple, .list]) (eV 1)) (tSeq (tIf (eOr (e2 oNe (e1 (oIsi [.tuple]) (eV 0)) (e1 (oIsi [.tuple]) (eV 1))) (eNot (e1 (oIsi [.tuple, .list]) (eV 0)))) (tRet (eC (.bl false))) (tPass)) (tRet (eAnd (e2 oEq (eN oLen [eV 0]) (eN oLen [eV 1])) (eN oAll [eLc [2, 3] (.tp [.nm 2, .nm 3]) (sN iZip [eV 0, eV 1]) (eC (.bl true)) (w_law_same_v2_0 c)])))) (tPass)) (tSeq (tIf (eOr (e1 (oIsi [.bool]) (eV 1)) (eOr (e1 (oIsi [.bool]) (eV 0)) (eOr (e1 oIsN (eV 1)) (e1 oIsN (eV 0))))) (tRet (eAnd (e2 oEq (e1 (oIsi [.bool]) (eV 0)) (e1 (oIsi [.bool]) (eV 1))) (eAnd (e2 oEq (e1 oIsN (eV 0)) (e1 oIsN (eV 1))) (e2 oEq (eV 0) (eV 1))))) (tPass)) (tRet (eAnd (e2 oEq (e1 (oIsi [.str]) (eV 0)) (e1 (oIsi [.str]) (eV 1))) (eAnd (e1 (oIsi [.int, .str]) (eV 0)) (e2 oEq (eV 0) (eV 1))))))
def f_law_same_v2 : FnD := ⟨2, 4, true, b_law_same_v2⟩
def w_law_odd_v2_0 (c : CallT) : TSt := tSet (.nm 1) (e2 oIx (eLst [eTup [eV 1], eLst [eV 1], eDct [eC (.int 0), eV 1]]) (eCall c 232 [eV 0, eC (.int 3)]))
def b_law_odd_v2 : CallT → TSt := fun c => tSeq (tSet (.nm 1) (eC (.str "odd"))) (tSeq (tFor (.nm 2) (sN iRng1 [e2 oAdd (eC (.int 1)) (eCall c 232 [eV 0, eC (.int 30)])]) (w_law_odd_v2_0 c)) (tRet (eCall c 233 [eV 0, eLst [eC .non, eC (.bl true), eC (.int 0), e1 oNeg (eC (.int 1)), eC (.str ""), eC (.str "012"), eC (.str "0 1"), eLst [], eDct [], eTup [eC (.str "0")], eLst [eC (.str "0"), eC (.str "1")], eTup [eC .non], e2 oPow (eC (.int 10)) (eC (.int 11)), eV 1]])))
def f_law_odd_v2 : FnD := ⟨1, 3, true, b_law_odd_v2⟩
def b_is_even_round : CallT → TSt := fun c => tRet (eAnd (eCall c 14 [eV 0]) (e1 oIsN (eCall c 68 [eV 0])))
def f_is_even_round : FnD := ⟨1, 1, true, b_is_even_round⟩
def b_round_pair : CallT → TSt := fun c => tSeq (tExpr (eCall c 15 [eV 0])) (tRet (eCall c 68 [eV 0]))
def f_round_pair : FnD := ⟨1, 1, true, b_round_pair⟩
def w_law_round_0 (c : CallT) : TSt := tSet (.nm 2) (e2 oAdd (eV 2) (eIf (e2 oGt (e2 oDiv (e2 oMulL (e2 oAdd (eV 3) (eC (.int 1))) (eV 1)) (eV 0)) (e2 oDiv (e2 oMulL (eV 3) (eV 1)) (eV 0))) (eC (.str "1")) (eC (.str "0"))))
def b_law_round : CallT → TSt := fun c => tSeq (tSet (.nm 2) (eC (.str ""))) (tSeq (tFor (.nm 3) (sN iRng1 [eV 0]) (w_law_round_0 c)) (tRet (eV 2)))
def f_law_round : FnD := ⟨2, 4, true, b_law_round⟩
def w_law_counts_v2_0 (c : CallT) : TSt := tExpr (eM isLstD oAppend (eV 1) [e2 oAdd (e2 oIx (eV 1) (e1 oNeg (eC (.int 1)))) (eN oInt [e2 oEq (eV 2) (eC (.str "1"))])])
def b_law_counts_v2 : CallT → TSt := fun c => tSeq (tSet (.nm 1) (eLstM [eC (.int 0)])) (tSeq (tFor (.nm 2) (sSeq (e2 oAdd (eV 0) (eV 0))) (w_law_counts_v2_0 c)) (tFrz 1 (tRet (eV 1))))
def f_law_counts_v2 : FnD := ⟨1, 3, false, b_law_counts_v2⟩
def w_law_first_pair_0 (c : CallT) : TE := e2 oSub (e2 oIx (eV 1) (e2 oAdd (eV 5) (eV 3))) (e2 oIx (eV 1) (eV 5))
def w_law_first_pair_1 (c : CallT) : TE := eV 7
def w_law_first_pair_2 (c : CallT) : TSt := tSeq (tSet (.nm 6) (eLc [7] (.nm 7) (sN iRng1 [eV 2]) (e2 oGt (e2 oSub (e2 oIx (eV 4) (eV 5)) (e2 oIx (eV 4) (eV 7))) (eC (.int 1))) (w_law_first_pair_1 c))) (tIf (e2 oGt (eN oLen [eV 6]) (eC (.int 0))) (tRet (eTup [eV 5, e2 oIx (eV 6) (eC (.int 0)), eV 3])) (tPass))
def w_law_first_pair_3 (c : CallT) : TSt := tSeq (tSet (.nm 4) (eLc [5] (.nm 5) (sN iRng1 [eV 2]) (eC (.bl true)) (w_law_first_pair_0 c))) (tIf (e2 oGt (e2 oSub (eN oMaxL [eV 4]) (eN oMinL [eV 4])) (eC (.int 1))) (tFor (.nm 5) (sN iRng1 [eV 2]) (w_law_first_pair_2 c)) (tPass))
def b_law_first_pair : CallT → TSt := fun c => tSeq (tSet (.tp [.nm 1, .nm 2]) (eTup [eCall c 269 [eV 0], eN oLen [eV 0]])) (tSeq (tFor (.nm 3) (sN iRng2 [eC (.int 1), eV 2]) (w_law_first_pair_3 c)) (tRet (eC .non)))
def f_law_first_pair : FnD := ⟨1, 8, true, b_law_first_pair⟩
def b_law_turn_v2 : CallT → TSt := fun c => tRet (e2 oAdd (eCutL (eV 0) (eV 1)) (eCutU (eV 0) (eV 1)))
def f_law_turn_v2 : FnD := ⟨2, 2, true, b_law_turn_v2⟩
def w_law_drawn_round_0 (c : CallT) : TE := eCall c 233 [eV 0, eLst [eC (.str "0"), eC (.str "1")]]
def w_law_drawn_round_1 (c : CallT) : TSt := tSeq (tSet (.tp [.nm 6, .nm 7]) (eTup [eCall c 232 [eV 0, eV 2], eCall c 232 [eV 0, eV 2]])) (tSeq (tSet (.tp [.nm 8, .nm 9]) (eTup [eN oMin2 [eV 6, eV 7], eN oMax2 [eV 6, eV 7]])) (tIf (e2 oLt (eV 8) (eV 9)) (tSeq (tSet (.nm 10) (eCutLU (eV 3) (e2 oAdd (eV 8) (eC (.int 1))) (eV 9))) (tSeq (tSet (.tp [.nm 11, .nm 12]) (eTup [eCutU (eV 3) (eV 8), eCutL (eV 3) (e2 oAdd (eV 9) (eC (.int 1)))])) (tSet (.nm 3) (e2 oAdd (e2 oAdd (e2 oAdd (e2 oAdd (eV 11) (e2 oIx (eV 3) (eV 9))) (eV 10)) (e2 oIx (eV 3) (eV 8))) (eV 12))))) (tPass)))
def b_law_drawn_round : CallT → TSt := fun c => tSeq (tSet (.nm 2) (e2 oAdd (eC (.int 1)) (eCall c 232 [eV 0, eCall c 233 [eV 0, eLst [eC (.int 6), eC (.int 15), eV 1]]]))) (tSeq (tSet (.tp [.nm 3, .nm 4]) (eTup [eCall c 271 [eCall c 268 [eV 2, eCall c 232 [eV 0, e2 oAdd (eV 2) (eC (.int 1))]], eCall c 232 [eV 0, eV 2]], eCall c 232 [eV 0, eC (.int 5)]])) (tSeq (tIf (e2 oEq (eV 4) (eC (.int 0))) (tRet (eM isStrD oJoin (eC (.str "")) [eLc [13] (.nm 13) (sN iRng1 [eN oMin2 [eV 2, eC (.int 40)]]) (eC (.bl true)) (w_law_drawn_round_0 c)])) (tPass)) (tSeq (tFor (.nm 5) (sN iRng1 [eN oMax2 [eC (.int 0), e2 oSub (eV 4) (eC (.int 2))]]) (w_law_drawn_round_1 c)) (tRet (eV 3)))))
def f_law_drawn_round : FnD := ⟨2, 14, true, b_law_drawn_round⟩
def b_law_word : CallT → (Store → Res D) → TSt := fun c th => tSeq (tTryAs 2 1 [3, 4] (tExpr (eAct 0 th)) 0 (tRet (eIf (eAnd (e1 (oIsE [3, 4] 3) (eV 1)) (e1 (oIsE [3, 4] 1000) (eV 1))) (eC (.str "number")) (eC (.str "other"))))) (tRet (eC (.str "told")))
def w_law_all_rows_0 (c : CallT) : TE := e2 oAdd (eV 3) (eC (.str "0"))
def w_law_all_rows_1 (c : CallT) : TE := e2 oAdd (eV 3) (eC (.str "1"))
def w_law_all_rows_2 (c : CallT) : TSt := tSet (.nm 1) (e2 oAdd (eLc [3] (.nm 3) (sSeq (eV 1)) (eC (.bl true)) (w_law_all_rows_0 c)) (eLc [3] (.nm 3) (sSeq (eV 1)) (eC (.bl true)) (w_law_all_rows_1 c)))
def b_law_all_rows : CallT → TSt := fun c => tSeq (tSet (.nm 1) (eLst [eC (.str "")])) (tSeq (tFor (.nm 2) (sN iRng1 [eV 0]) (w_law_all_rows_2 c)) (tRet (eV 1)))
def f_law_all_rows : FnD := ⟨1, 4, true, b_law_all_rows⟩
def w_law_are_small_right_0 (c : CallT) : TE := eV 6
def w_law_are_small_right_1 (c : CallT) : TE := eV 6
def w_law_are_small_right_2 (c : CallT) : TE := eV 6
def w_law_are_small_right_3 (c : CallT) : TSt := tSet (.tp [.nm 4, .nm 5]) (eTup [eV 5, e2 oMod (eN oInt [eV 4]) (eV 5)])
def w_law_are_small_right_4 (c : CallT) : TSt := tSeq (tSet (.nm 3) (eLc [6] (.nm 6) (sSeq (eV 1)) (e2 oEq (eM isStrD oCount (eV 6) [eC (.str "1")]) (eV 2)) (w_law_are_small_right_2 c))) (tSeq (tIf (e2 oNe (eCall c 70 [eV 0, eV 2]) (eN oMinS [eV 3])) (tRet (eC (.bl false))) (tPass)) (tSeq (tSet (.tp [.nm 4, .nm 5]) (eTup [eV 0, eV 2])) (tSeq (tWhile (e2 oGt (eV 5) (eC (.int 0))) (w_law_are_small_right_3 c)) (tIf (e2 oNe (eN oLen [eV 3]) (e2 oDiv (eV 0) (eV 4))) (tRet (eC (.bl false))) (tPass)))))
def b_law_are_small_right : CallT → TSt := fun c => tSeq (tSet (.nm 1) (eLc [6] (.nm 6) (sSeq (eCall c 274 [eV 0])) (e1 oIsN (eCall c 270 [eV 6])) (w_law_are_small_right_0 c))) (tSeq (tIf (e2 oNe (eN oSortedI [eLc [6] (.nm 6) (sSeq (eCall c 274 [eV 0])) (e1 (oIsB true) (eCall c 266 [eV 6])) (w_law_are_small_right_1 c)]) (eN oSortedI [eV 1])) (tRet (eC (.bl false))) (tPass)) (tSeq (tFor (.nm 2) (sN iRng1 [e2 oAdd (eV 0) (eC (.int 1))]) (w_law_are_small_right_4 c)) (tRet (eC (.bl true)))))
def f_law_are_small_right : FnD := ⟨1, 7, true, b_law_are_small_right⟩
def w_law_is_row_right_0 (c : CallT) : TE := eCall c 271 [eV 0, eV 5]
def b_law_is_row_right : CallT → TSt := fun c => tSeq (tSet (.nm 1) (e1 oIsN (eCall c 270 [eV 0]))) (tSeq (tIf (eNot (eCall c 234 [eLst [eCall c 266 [eV 0], e1 oIsN (eCall c 267 [eV 0])], eLst [eV 1, eV 1]])) (tRet (eC (.bl false))) (tPass)) (tSeq (tIf (eNot (eV 1)) (tRet (eC (.bl true))) (tPass)) (tSeq (tIf (eNot (eCall c 234 [eLst [eCall c 59 [eV 0], eCall c 266 [eCall c 107 [eV 0]], eCall c 266 [eCall c 108 [eV 0]]], e2 oMulL (eLst [eC (.bl true)]) (eC (.int 3))])) (tRet (eC (.bl false))) (tPass)) (tSeq (tSet (.tp [.nm 2, .nm 3]) (eTup [eN oLen [eV 0], eM isStrD oCount (eV 0) [eC (.str "1")]])) (tSeq (tSet (.nm 4) (eCall c 70 [eV 2, eV 3])) (tRet (eCall c 234 [eV 4, eN oMinS [eLc [5] (.nm 5) (sN iRng1 [eV 2]) (eC (.bl true)) (w_law_is_row_right_0 c)]])))))))
def f_law_is_row_right : FnD := ⟨1, 6, true, b_law_is_row_right⟩
def b_law_are_refused : CallT → TSt := fun c => tSeq (tSet (.nm 1) (eCall c 233 [eV 0, eLst [eC (.int 0), eC (.int 501), e1 oNeg (eC (.int 1)), eC .non, eC (.bl true), eC (.str "5"), eTup [eC (.int 5)], e2 oPow (eC (.int 10)) (eC (.int 30)), eCall c 247 [eV 0], eC (.int 7)]])) (tSeq (tSet (.nm 2) (eCall c 233 [eV 0, eLst [e1 oNeg (eC (.int 1)), eC (.int 8), eC .non, eC (.bl true), eC (.str "0"), e2 oPow (eC (.int 10)) (eC (.int 9)), eLst [eC (.int 1)], eC (.int 3)]])) (tSeq (tSet (.nm 3) (eAnd (e2 oEqK (eV 1) (eC (.int 7))) (e2 oEqK (eV 2) (eC (.int 3))))) (tSeq (tIf (e2 oNe (eTold (deep c) 1 (b_law_word c) (eCall c 1000070 [eV 1, eV 2])) (eIf (eV 3) (eC (.str "told")) (eC (.str "number")))) (tRet (eC (.bl false))) (tPass)) (tSeq (tSet (.nm 4) (eCall c 233 [eV 0, eLst [eCall c 247 [eV 0], eC (.str ""), e2 oMulL (eC (.str "01")) (eC (.int 251)), eC (.str "0a"), eC (.str "01 "), eTup [eC (.str "0"), eC (.str "1")], eC (.int 1)]])) (tRet (e1 (oIsB false) (eCall c 266 [eV 4])))))))
def f_law_are_refused : FnD := ⟨1, 5, true, b_law_are_refused⟩
def w_law_v15_0 (c : CallT) : TSt := tIf (eOr (eNot (eCall c 276 [eCall c 272 [eV 1, eCall c 233 [eV 1, eLst [eC (.int 20), eC (.int 60)]]]])) (eNot (eCall c 277 [eV 1]))) (tRet (eC (.bl false))) (tPass)
def b_law_v15 : CallT → TSt := fun c => tSeq (tSet (.nm 1) (eCall c 231 [eV 0])) (tSeq (tIf (eNot (eCall c 234 [eLst [eCall c 70 [eC (.int 5), eC (.int 2)], eCall c 266 [eC (.str "0011")], eCall c 266 [eC (.str "01001")]], eLst [eC (.str "00101"), eC (.bl false), eC (.bl true)]])) (tRet (eC (.bl false))) (tPass)) (tSeq (tIf (eNot (eCall c 275 [e2 oAdd (eC (.int 1)) (eCall c 232 [eV 1, eC (.int 7)])])) (tRet (eC (.bl false))) (tPass)) (tSeq (tFor (.nm 2) (sN iRng1 [eC (.int 6)]) (w_law_v15_0 c)) (tSeq (tIf (e2 oGt (eCall c 232 [eV 1, eC (.int 4)]) (eC (.int 0))) (tRet (eC (.bl true))) (tPass)) (tSeq (tSet (.nm 3) (eCall c 233 [eV 1, eLst [eC (.int 499), eC (.int 500), e2 oAdd (eC (.int 200)) (eCall c 232 [eV 1, eC (.int 300)])]])) (tRet (eCall c 276 [eCall c 271 [eCall c 268 [eV 3, eCall c 232 [eV 1, e2 oAdd (eV 3) (eC (.int 1))]], eCall c 232 [eV 1, eV 3]]])))))))
def f_law_v15 : FnD := ⟨1, 4, true, b_law_v15⟩
def Lib : Prog
  | 1 => some f_is_integer
  | 2 => some f_is_within
  | 4 => some f_common
  | 6 => some f_frac
  | 13 => some f_is_signs
  | 14 => some f_is_row
  | 15 => some f_check_row
  | 16 => some f_sums_of
  | 20 => some f_pair_of_length
  | 21 => some f_first_pair
  | 59 => some f_is_even
  | 64 => some f_total_to
  | 65 => some f_row_of
  | 68 => some f_pair_round
  | 69 => some f_least_of
  | 70 => some f_least_round
  | 107 => some f_complement
  | 108 => some f_mirrored
  | 231 => some f_law_hand_v7
  | 232 => some f_law_draw_v3
  | 233 => some f_law_any_v2
  | 234 => some f_law_same_v2
  | 247 => some f_law_odd_v2
  | 266 => some f_is_even_round
  | 267 => some f_round_pair
  | 268 => some f_law_round
  | 269 => some f_law_counts_v2
  | 270 => some f_law_first_pair
  | 271 => some f_law_turn_v2
  | 272 => some f_law_drawn_round
  | 274 => some f_law_all_rows
  | 275 => some f_law_are_small_right
  | 276 => some f_law_is_row_right
  | 277 => some f_law_are_refused
  | 278 => some f_law_v15
  | _ => none
end Q
namespace Q
open PySem L2
section
variable {n : Nat} {S : Store}
theorem oDiv_62 {i j : Int} (h1 : 0 < j) (h2 : j < 4611686018427387904) : oDiv (.int i) (.int j) S = some (.int (i / j), S) := oDiv_big h1 (by
  have h3 : j.natAbs < 2 ^ 62 := by omega
  have := PySem.Flt.log2_lt_of (by decide) h3
  omega)
theorem c_is_integer (i : Int) : callN Lib (n + 1) 1 [.int i] S = .ok (.bl true) S := by
  rw [callN_eq (d := f_is_integer) rfl]
  refine run_keep rfl ?_
  simp [b_is_integer, oIsi, Ty.of, Ty.eqb]
theorem c_is_within (i l h : Int) : callN Lib (n + 2) 2 [.int i, .int l, .int h] S = .ok (.bl (decide (l ≤ i ∧ i ≤ h))) S := by
  rw [callN_eq (d := f_is_within) rfl]
  refine run_keep rfl ?_
  simp [b_is_within, c_is_integer]
  by_cases h1 : l ≤ i <;> simp [h1]
theorem shaped_int (i : Int) : SeqAt.shaped (.int i) = true := by unfold SeqAt.shaped; rfl
def rul (p q a b : Int) : D := .tup [.tup [.int p, .int q], .tup [.int a, .int b]]
abbrev IsRule' (p q a b : Int) : Prop := 0 ≤ p ∧ p ≤ q ∧ 0 ≤ a ∧ a < b ∧ q ≤ 10000 ∧ b ≤ 10000
structure IsRule (p q a b : Int) : Prop where
  q1 : 1 ≤ q
  q2 : q ≤ 10000
  p0 : 0 ≤ p
  p1 : p ≤ q
  pq : Int.gcd p q = 1
  b1 : 1 ≤ b
  b2 : b ≤ 10000
  a0 : 0 ≤ a
  a1 : a < b
  ab : Int.gcd a b = 1
theorem gcd_turns (c : CallT) : ∀ (m : Nat) (x y : Nat), y ≤ m → ∃ k, k ≤ m + 1 ∧ whL (e2 oGt (eV 1) (eC (.int 0))) (tSet (.tp [.nm 0, .nm 1]) (eTup [eV 1, e2 oMod (eV 0) (eV 1)])) k [some (.int x), some (.int y)] S = some (.nx [some (.int (Nat.gcd x y : Nat)), some (.int 0)], S) := by
  intro m
  induction m with
  | zero =>
    intro x y hy
    obtain rfl : y = 0 := by omega
    refine ⟨1, by omega, ?_⟩
    simp [whL]
  | succ m ih =>
    intro x y hy
    by_cases h0 : y = 0
    · subst h0
      refine ⟨1, by omega, ?_⟩
      simp [whL]
    · have hlt : x % y < y := Nat.mod_lt _ (by omega)
      obtain ⟨k, hk, e⟩ := ih y (x % y) (by omega)
      refine ⟨k + 1, by omega, ?_⟩
      have hp : (0 : Int) < (y : Int) := by omega
      unfold whL
      simp [hp, oMod_pos hp]
      have e2 : ((x : Int) % (y : Int)) = ((x % y : Nat) : Int) := by simp
      rw [e2, e, Nat.gcd_comm y (x % y), ← Nat.gcd_rec y x, Nat.gcd_comm y x]
      have h1 : 0 < y := by omega
      simp [h1]
theorem c_common (x y : Int) (hy : y.natAbs < 2 ^ 59) : callN Lib (n + 1) 4 [.int x, .int y] S = .ok (.int (Int.gcd x y : Nat)) S := by
  rw [callN_eq (d := f_common) rfl]
  refine run_keep rfl ?_
  have ex : (if x < 0 then -x else x) = ((x.natAbs : Nat) : Int) := by split <;> omega
  have ey : (if y < 0 then -y else y) = ((y.natAbs : Nat) : Int) := by split <;> omega
  obtain ⟨k, hk, e⟩ := gcd_turns (S := S) (callN Lib n) y.natAbs x.natAbs y.natAbs (Nat.le_refl _)
  have e2 := while_of e (by show k ≤ 2 ^ 60; omega)
  simp [b_common, w_common_0, ex, ey, e2]
  rfl
def tot (p q a b k : Int) : Int := (k * p * b + a * q) / (q * b)
theorem c_total_to {p q a b : Int} (r : IsRule p q a b) (k : Int) : callN Lib (n + 1) 64 [rul p q a b, .int k] S = .ok (.int (tot p q a b k)) S := by
  rw [callN_eq (d := f_total_to) rfl]
  refine run_keep rfl ?_
  have h := r.q2; have h2 := r.p1; have h3 := r.b2; have h4 := r.a1; have h5 := r.p0; have h6 := r.a0; have h7 := r.q1; have h8 := r.b1
  have m1 := fun (i : Int) (S : Store) => oMul_r (S := S) (i := i) (j := p) (by omega) (by omega)
  have m2 := fun (i : Int) (S : Store) => oMul_r (S := S) (i := i) (j := b) (by omega) (by omega)
  have m3 := fun (i : Int) (S : Store) => oMul_r (S := S) (i := i) (j := q) (by omega) (by omega)
  have b1 : 0 < q * b := Int.mul_pos (by omega) (by omega)
  have b2 : q * b ≤ 10000 * 10000 := Int.mul_le_mul h h3 (by omega) (by omega)
  have d1 := fun (i : Int) (S : Store) => oDiv_62 (S := S) (i := i) b1 (by omega)
  simp [b_total_to, rul, m1, m2, m3, d1]
  rfl
def dut (p q a b k : Int) : Bool := decide (tot p q a b k < tot p q a b (k + 1))
end
end Q
namespace Q
open PySem L2
structure Hand where
  cells : List Int
  pos : Int
  left : Int
  mix : Int
  cnt : Int
def Hand.d (h : Hand) : List D := [.lst (h.cells.map .int), .int h.pos, .int h.left, .int h.mix, .int h.cnt]
structure HandOk (h : Hand) : Prop where
  cells : ∀ c ∈ h.cells, 0 ≤ c
  pos : 0 ≤ h.pos
  left : 0 ≤ h.left
  mix : 0 ≤ h.mix
  cnt : 0 ≤ h.cnt
def Hd (k : Nat) (S : Store) : Prop := ∃ h : Hand, S.get k = some h.d ∧ HandOk h
def Upd (k : Nat) (S S' : Store) : Prop := ∃ xs, S' = S.put k xs
theorem Upd.refl {k : Nat} {S : Store} (h : Hd k S) : Upd k S S := h.elim fun h z => ⟨_, (put_self z.1).symm⟩
theorem Upd.trans {k : Nat} {S S1 S2 : Store} (a : Upd k S S1) (b : Upd k S1 S2) : Upd k S S2 := by
  obtain ⟨x, rfl⟩ := a
  obtain ⟨y, rfl⟩ := b
  exact ⟨y, put_put⟩
section
variable {S : Store} {k : Nat} {a b c d e v : D}
theorem hx0 (g : S.get k = some [a, b, c, d, e]) : oIx (.ptr k) (.int 0) S = some (a, S) := oIx_ptr (n := 0) g rfl
theorem hx1 (g : S.get k = some [a, b, c, d, e]) : oIx (.ptr k) (.int 1) S = some (b, S) := oIx_ptr (n := 1) g rfl
theorem hx2 (g : S.get k = some [a, b, c, d, e]) : oIx (.ptr k) (.int 2) S = some (c, S) := oIx_ptr (n := 2) g rfl
theorem hx3 (g : S.get k = some [a, b, c, d, e]) : oIx (.ptr k) (.int 3) S = some (d, S) := oIx_ptr (n := 3) g rfl
theorem hx4 (g : S.get k = some [a, b, c, d, e]) : oIx (.ptr k) (.int 4) S = some (e, S) := oIx_ptr (n := 4) g rfl
theorem hs1 {x : Int} (g : S.get k = some [a, b, c, d, e]) : setL (.ptr k) (.int 1) (.int x) S = some (S.put k [a, .int x, c, d, e]) := setL_ptr (n := 1) g (by simp) rfl
theorem hs2 {x : Int} (g : S.get k = some [a, b, c, d, e]) : setL (.ptr k) (.int 2) (.int x) S = some (S.put k [a, b, .int x, d, e]) := setL_ptr (n := 2) g (by simp) rfl
theorem hs3 {x : Int} (g : S.get k = some [a, b, c, d, e]) : setL (.ptr k) (.int 3) (.int x) S = some (S.put k [a, b, c, .int x, e]) := setL_ptr (n := 3) g (by simp) rfl
theorem hs4 {x : Int} (g : S.get k = some [a, b, c, d, e]) : setL (.ptr k) (.int 4) (.int x) S = some (S.put k [a, b, c, d, .int x]) := setL_ptr (n := 4) g (by simp) rfl
@[simp] theorem flat_int (i : Int) : (D.int i).flat = true := rfl
@[simp] theorem flat_bl (i : Bool) : (D.bl i).flat = true := rfl
@[simp] theorem flat_str (i : Str) : (D.str i).flat = true := rfl
@[simp] theorem flat_non : D.non.flat = true := rfl
@[simp] theorem flat_lst (xs : List D) : (D.lst xs).flat = flats xs := rfl
@[simp] theorem flat_tup (xs : List D) : (D.tup xs).flat = flats xs := rfl
@[simp] theorem flats_nil : flats [] = true := rfl
@[simp] theorem flats_cons (d : D) (ds : List D) : flats (d :: ds) = (d.flat && flats ds) := rfl
theorem flats_ints (ns : List Int) : flats (ns.map .int) = true := by
  induction ns with
  | nil => rfl
  | cons i ns ih => simp [ih]
end
theorem c_draw {n k : Nat} {S : Store} (H : Hd k S) (m : Int) (hm : 0 < m) (hm2 : m < 4611686018427387904) :
    ∃ r S', callN Lib (n + 1) 232 [.ptr k, .int m] S = .ok (.int r) S' ∧ Hd k S' ∧ Upd k S S' ∧ 0 ≤ r ∧ r < m := by
  obtain ⟨⟨cells, pos, left, mix, cnt⟩, g, ok⟩ := H
  obtain ⟨o1, o2, o3, o4, o5⟩ := ok
  simp only at o1 o2 o3 o4 o5
  simp only [Hand.d] at g
  obtain ⟨pn, rfl⟩ := Int.eq_ofNat_of_zero_le o2
  have ml : ∀ (x j : Int) (S : Store), oMulL (.int (x % 2147483647)) (.int j) S = some (.int (x % 2147483647 * j), S) := fun x j S => by
    have h1 := Int.emod_nonneg x (show (2147483647 : Int) ≠ 0 by decide)
    have h2 := Int.emod_lt_of_pos x (show (0 : Int) < 2147483647 by decide)
    exact oMul_l (by omega) (by omega)
  have m1 := fun (i : Int) (S : Store) => oMul_r (S := S) (i := i) (j := 69621) (by decide) (by decide)
  have m2 := fun (i : Int) (S : Store) => oMul_r (S := S) (i := i) (j := 40692) (by decide) (by decide)
  have m3 := fun (i : Int) (S : Store) => oMul_r (S := S) (i := i) (j := 48271) (by decide) (by decide)
  have m4 := fun (i : Int) (S : Store) => oMul_l (S := S) (i := 7919) (j := i) (by decide) (by decide)
  have r1 := fun (i : Int) (S : Store) => oMod_pos (S := S) (i := i) (j := 2147483629) (by decide)
  have r2 := fun (i : Int) (S : Store) => oMod_pos (S := S) (i := i) (j := 2147483647) (by decide)
  have r3 := fun (i : Int) (S : Store) => oMod_pos (S := S) (i := i) (j := 2147483563) (by decide)
  have d1 := fun (i : Int) (S : Store) => oDiv_small (S := S) (i := i) (j := 1009) (by decide) (by decide)
  have d2 := fun (i : Int) (S : Store) => oDiv_small (S := S) (i := i) (j := 2003) (by decide) (by decide)
  have d3 := fun (i : Int) (S : Store) => oDiv_small (S := S) (i := i) (j := 16) (by decide) (by decide)
  have rm := fun (i : Int) (S : Store) => oMod_pos (S := S) (i := i) (j := m) hm
  have dm := fun (i : Int) (S : Store) => oDiv_62 (S := S) (i := i) (j := m) hm hm2
  have gp : ∀ (a b c d e : D), (S.put k [a, b, c, d, e]).get k = some [a, b, c, d, e] := fun a b c d e => get_put_self g
  have p18 : (10 : Int) ^ 18 = 1000000000000000000 := by decide
  have pw : oPow (.int 10) (.int 18) = fun S => some (.int 1000000000000000000, S) := by
    funext S
    exact (oPow_10 (n := 18)).trans (by simp)
  have nn : ∀ x : Int, 0 ≤ x % 2147483629 := fun x => Int.emod_nonneg x (by decide)
  have rr : ∀ x : Int, 0 ≤ x % m ∧ x % m < m := fun x => ⟨Int.emod_nonneg x (by omega), Int.emod_lt_of_pos x hm⟩
  -- the two ends
  have main : ∃ r cells' pos' left' mix' cnt', callN Lib (n + 1) 232 [.ptr k, .int m] S = .ok (.int r) (S.put k [.lst (cells.map .int), .int pos', .int left', .int mix', .int cnt']) ∧ cells' = cells ∧ 0 ≤ pos' ∧ 0 ≤ left' ∧ 0 ≤ mix' ∧ 0 ≤ cnt' ∧ 0 ≤ r ∧ r < m := by
    rw [callN_eq (d := f_law_draw_v3) rfl]
    by_cases c1 : left = 0 ∧ pn < cells.length
    · obtain ⟨c1, c2⟩ := c1
      subst c1
      have hc : (cells.map D.int)[pn]? = some (.int cells[pn]) := by simp [c2]
      have ic := fun S => oIx_lst (S := S) hc
      have c3 : (pn : Int) < (cells.length : Int) := by omega
      have hc0 : 0 ≤ cells[pn] := o1 _ (List.getElem_mem c2)
      by_cases c4 : 1000000000000000000 ≤ cells[pn]
      · have c5 : 0 < cells[pn] := by omega
        refine ⟨_, _, _, _, _, _, run_keep rfl (by simp [b_law_draw_v3, hx0 g, hx1 g, hx2 g, hx3 g, hx4 g, hs1 g, hx0 (gp _ _ _ _ _), hx1 (gp _ _ _ _ _), hx2 (gp _ _ _ _ _), hx3 (gp _ _ _ _ _), hx4 (gp _ _ _ _ _), hs1 (gp _ _ _ _ _), hs2 (gp _ _ _ _ _), hs3 (gp _ _ _ _ _), hs4 (gp _ _ _ _ _), ml, m1, m2, m3, m4, r1, r2, r3, d1, d2, d3, rm, dm, pw, ic, c2, c4, c5]; exact ⟨rfl, rfl⟩), rfl, ?_, ?_, ?_, ?_, (rr _).1, (rr _).2⟩
        · omega
        · exact Int.ediv_nonneg hc0 (by omega)
        · exact nn _
        · exact o5
      · refine ⟨_, _, _, _, _, _, run_keep rfl (by simp [b_law_draw_v3, hx0 g, hx1 g, hx2 g, hx3 g, hx4 g, hs1 g, hx0 (gp _ _ _ _ _), hx1 (gp _ _ _ _ _), hx2 (gp _ _ _ _ _), hx3 (gp _ _ _ _ _), hx4 (gp _ _ _ _ _), hs1 (gp _ _ _ _ _), hs2 (gp _ _ _ _ _), hs3 (gp _ _ _ _ _), hs4 (gp _ _ _ _ _), ml, m1, m2, m3, m4, r1, r2, r3, d1, d2, d3, rm, dm, pw, ic, c2, c4]; exact ⟨rfl, rfl⟩), rfl, ?_, ?_, ?_, ?_, (rr _).1, (rr _).2⟩
        · omega
        · exact Int.le_refl 0
        · exact nn _
        · omega
    · by_cases c2 : left = 0
      · subst c2
        have c3 : ¬ pn < cells.length := fun z => c1 ⟨rfl, z⟩
        refine ⟨_, _, _, _, _, _, run_keep rfl (by simp [b_law_draw_v3, hx0 g, hx1 g, hx2 g, hx3 g, hx4 g, hs1 g, hs2 g, hs3 g, hs4 g, hx0 (gp _ _ _ _ _), hx1 (gp _ _ _ _ _), hx2 (gp _ _ _ _ _), hx3 (gp _ _ _ _ _), hx4 (gp _ _ _ _ _), ml, m1, m2, m3, m4, r1, r2, r3, d1, d2, d3, rm, dm, pw, c3]; exact ⟨rfl, rfl⟩), rfl, ?_, ?_, ?_, ?_, (rr _).1, (rr _).2⟩
        · exact o2
        · exact Int.le_refl 0
        · exact o4
        · omega
      · have c3 : 0 < left := by omega
        refine ⟨_, _, _, _, _, _, run_keep rfl (by simp [b_law_draw_v3, hx0 g, hx1 g, hx2 g, hx3 g, hx4 g, hs1 g, hs2 g, hs3 g, hs4 g, ml, m1, m2, m3, m4, r1, r2, r3, d1, d2, d3, rm, dm, pw, c2, c3]; exact ⟨rfl, rfl⟩), rfl, ?_, ?_, ?_, ?_, (rr _).1, (rr _).2⟩
        · exact o2
        · exact Int.ediv_nonneg o3 (by omega)
        · exact o4
        · exact o5
  obtain ⟨r, cells', pos', left', mix', cnt', e, h1, h2, h3, h4, h5, h6, h7⟩ := main
  exact ⟨r, _, e, ⟨⟨cells, pos', left', mix', cnt'⟩, get_put_self g, ⟨o1, h2, h3, h4, h5⟩⟩, ⟨_, rfl⟩, h6, h7⟩
theorem c_any {n k : Nat} {S : Store} (H : Hd k S) (ds : List D) (h0 : 0 < ds.length) (h1 : (ds.length : Int) < 4611686018427387904) :
    ∃ d S', callN Lib (n + 2) 233 [.ptr k, .lst ds] S = .ok d S' ∧ Hd k S' ∧ Upd k S S' ∧ d ∈ ds := by
  obtain ⟨r, S', e, H', U, r0, r1⟩ := c_draw (n := n) H (ds.length : Int) (by omega) h1
  obtain ⟨rn, rfl⟩ := Int.eq_ofNat_of_zero_le r0
  have hr : rn < ds.length := by omega
  have hx : ds[rn]? = some ds[rn] := by simp [hr]
  refine ⟨ds[rn], S', ?_, H', U, List.getElem_mem hr⟩
  rw [callN_eq (d := f_law_any_v2) rfl]
  refine run_keep rfl ?_
  simp [b_law_any_v2, e, oIx_lst hx]
theorem mapNat (f : Int → D) (ns : List Int) : (ns.map D.int).map (fun d => match d with | .int i => f i | d => d) = ns.map f := by
  rw [List.map_map]
  rfl
theorem c_hand {n : Nat} {S : Store} (ns : List Int) : ∃ h : Hand, callN Lib (n + 1) 231 [.src ns] S = .ok (.ptr S.L.length) (S.new h.d) ∧ HandOk h := by
  have hl : (cutD ns none (some 63)).length ≤ 63 := by
    have e : (some (63 : Int)) = some ((63 : Nat) : Int) := rfl
    unfold cutD
    rw [e, HT.sIx_nat, HT.sIx_none, List.length_take]
    omega
  have lc : ∀ (t x : TE) (s : Sl), (∀ d ∈ (cutD ns none (some 63)).map D.int, t (s.set 2 (some d)) S = .ok (.bl true) S ∧ x (s.set 2 (some d)) S = .ok ((fun d => match d with | .int i => .int (if i < 0 then -i else i) | d => d) d) S) →
      lcL (.nm 2) t x s ((cutD ns none (some 63)).map D.int) [] S = .ok (.lst (((cutD ns none (some 63)).map fun i => if i < 0 then -i else i).map D.int)) S := fun t x s h => by
    rw [lc_map _ _ _ h (by simp; exact Nat.le_trans hl (by rw [PySem.sizeLine_eq]; decide)), mapNat, List.map_map]
    rfl
  obtain ⟨L, hL⟩ : ∃ L, L = (cutD ns none (some 63)).map fun i => if i < 0 then -i else i := ⟨_, rfl⟩
  rw [← hL] at lc
  have hL2 : L.length ≤ 63 := by rw [hL, List.length_map]; exact hl
  have main : ∃ mix : Int, callN Lib (n + 1) 231 [.src ns] S = .ok (.ptr S.L.length) (S.new [.lst (L.map D.int), .int 0, .int 0, .int mix, .int 0]) ∧ 0 ≤ mix := by
    refine ⟨?mix, ?e, ?h⟩
    case e =>
      rw [callN_eq (d := f_law_hand_v7) rfl]
      refine run_keep rfl ?_
      simp only [b_law_hand_v7, tSeq_eq, tSet_eq, eLc_eq, sSeq, eCutU, ePart]
      simp [oCut, partK]
      rw [lc]
      · simp [oMul_r (j := L.length) (by omega) (by omega), flats_ints]
        rfl
      · intro d hd
        obtain ⟨i, _, rfl⟩ := List.mem_map.mp hd
        simp [w_law_hand_v7_0]
    case h => omega
  obtain ⟨mix, e, hm⟩ := main
  refine ⟨⟨L, 0, 0, mix, 0⟩, e, ⟨fun c hc => ?_, Int.le_refl 0, Int.le_refl 0, hm, Int.le_refl 0⟩⟩
  rw [hL] at hc
  obtain ⟨i, _, rfl⟩ := List.mem_map.mp hc
  split <;> omega
end Q
namespace Q
open PySem L2
def sgn (b : Bool) : Str := if b then "1" else "0"
def bit (b : Bool) : Nat := if b then 49 else 48
def wrd (l : List Bool) : Str := ⟨(l.map bit).toArray⟩
theorem sgn_wrd (b : Bool) : sgn b = ⟨#[bit b]⟩ := by cases b <;> decide +kernel
theorem join_sgn : ∀ l : List Bool, Txt.join ("" : Str) (l.map sgn) = wrd l := fun l => by
  show Builtin.Str.glued _ _ = _
  rw [StrLaws.glued_eq_join]
  have e0 : ("" : Str) = ⟨#[]⟩ := by decide +kernel
  have ap : ∀ a b : Str, a ++ b = ⟨a.cps ++ b.cps⟩ := fun _ _ => rfl
  induction l with
  | nil => rfl
  | cons b l ih =>
    cases l with
    | nil => rw [List.map_cons, List.map_nil]; show sgn b = _; rw [sgn_wrd]; rfl
    | cons c l =>
      rw [List.map_cons, List.map_cons] at *
      show sgn b ++ ("" : Str) ++ Str.join ("" : Str) (sgn c :: l.map sgn) = _
      rw [ih, sgn_wrd, e0, ap, ap]
      simp [wrd]
theorem strs_map (l : List Bool) : strsOf (l.map fun b => D.str (sgn b)) = some (l.map sgn) := by
  induction l with
  | nil => rfl
  | cons b l ih => rw [List.map_cons, List.map_cons]; simp [strsOf, ih]
theorem sgn_len (b : Bool) : (sgn b).length = 1 := by cases b <;> decide +kernel
theorem sgns_sum (l : List Bool) : ((l.map sgn).map (·.length)).sum = l.length := by
  induction l with
  | nil => rfl
  | cons b l ih => simp [sgn_len] at *; omega
theorem oJoin_sgn {S : Store} {l : List Bool} (h : l.length ≤ 16777216) : oJoin [.str ("" : Str), .lst (l.map fun b => D.str (sgn b))] S = some (.str (wrd l), S) := by
  have e : ("" : Str).length = 0 := by decide +kernel
  unfold oJoin
  simp only [strs_map, sgns_sum, List.length_map, e]
  rw [if_pos (by omega), join_sgn]
theorem wrd_inj {l m : List Bool} (h : wrd l = wrd m) : l = m := by
  have e : (l.map bit).toArray = (m.map bit).toArray := congrArg Str.cps h
  have e2 : l.map bit = m.map bit := by simpa using congrArg Array.toList e
  clear h e
  induction l generalizing m with
  | nil => cases m with
    | nil => rfl
    | cons b m => cases e2
  | cons a l ih => cases m with
    | nil => cases e2
    | cons b m =>
      rw [List.map_cons, List.map_cons] at e2
      injection e2 with h1 h2
      rw [ih h2]
      cases a <;> cases b <;> first | rfl | cases h1
theorem wrd_len (l : List Bool) : (wrd l).length = l.length := by simp [wrd, Str.length]
def days (p q a b first : Int) (m : Nat) : List Bool := (List.range m).map fun (i : Nat) => dut p q a b (first + i)
theorem days_len (p q a b first : Int) (m : Nat) : (days p q a b first m).length = m := by simp [days]
section
variable {n : Nat} {S : Store}
theorem rngL_len (lo : Int) (m : Nat) : (rngL lo m).length = m := by simp [rngL]
theorem rngL_mem {lo : Int} {m : Nat} {d : D} (h : d ∈ rngL lo m) : ∃ i : Nat, i < m ∧ d = .int (lo + i) := by
  unfold rngL at h
  obtain ⟨i, hi, rfl⟩ := List.mem_map.mp h
  exact ⟨i, List.mem_range.mp hi, rfl⟩
theorem lc_rng {i : Nat} {t e : TE} {s : Sl} {S : Store} {m : Nat} (f : Nat → D) (h : ∀ j : Nat, j < m → t (s.set i (some (.int j))) S = .ok (.bl true) S ∧ e (s.set i (some (.int j))) S = .ok (f j) S) (hm : m ≤ 16777216) :
    lcL (.nm i) t e s (rngL 0 m) [] S = .ok (.lst ((List.range m).map f)) S := by
  rw [lc_map (fun d => match d with | .int j => f j.toNat | d => d)]
  · unfold rngL
    rw [List.map_map, List.nil_append]
    congr 2
    refine List.map_congr_left fun j _ => ?_
    simp
  · intro d hd
    obtain ⟨j, hj, rfl⟩ := rngL_mem hd
    have := h j hj
    simpa using this
  · rw [rngL_len, PySem.sizeLine_eq]
    simpa using hm
theorem iRng1_nat {m : Nat} (h : m < 4611686018427387904) : iRng1 [.int m] = some (rngL 0 m) := by
  have : rngOk (m : Int) = true := by
    unfold rngOk
    simp only [Bool.and_eq_true, decide_eq_true_eq]
    omega
  simp [iRng1, this]
theorem b_row_of_ok (c : CallT) {p q a b : Int} (first : Int) (m : Nat) (hm : m < 16777216) (hc : ∀ k, c 64 [rul p q a b, .int k] S = .ok (.int (tot p q a b k)) S) : b_row_of c [some (rul p q a b), some (.int first), some (.int m), none, none] S = some (.ret (.str (wrd (days p q a b first m))), S) := by
  have r1 : iRng1 [.int ((m : Int) + 1)] = some (rngL 0 (m + 1)) := iRng1_nat (m := m + 1) (by omega)
  have r2 := iRng1_nat (m := m) (by omega)
  have l1 : ∀ s : Sl, s[0]? = some (some (rul p q a b)) → s[1]? = some (some (.int first)) → 4 < s.length → lcL (.nm 4) (eC (.bl true)) (eCall c 64 [eV 0, e2 oAdd (eV 1) (eV 4)]) s (rngL 0 (m + 1)) [] S = .ok (.lst ((List.range (m + 1)).map fun (i : Nat) => .int (tot p q a b (first + i)))) S := fun s h0 h1 h4 =>
    lc_rng _ (fun j hj => ⟨rfl, by simp [h0, h1, h4, hc]⟩) (by omega)
  have l2 : ∀ s : Sl, s[3]? = some (some (.lst ((List.range (m + 1)).map fun (i : Nat) => .int (tot p q a b (first + i))))) → 4 < s.length → lcL (.nm 4) (eC (.bl true)) (eIf (e2 oGt (e2 oIx (eV 3) (e2 oAdd (eV 4) (eC (.int 1)))) (e2 oIx (eV 3) (eV 4))) (eC (.str "1")) (eC (.str "0"))) s (rngL 0 m) [] S = .ok (.lst ((days p q a b first m).map fun b => .str (sgn b))) S := fun s h3 h4 => by
    rw [lc_rng (fun j => .str (sgn (dut p q a b (first + j)))) (fun j hj => ⟨rfl, ?_⟩) (by omega)]
    · unfold days
      rw [List.map_map]
      rfl
    · have i1 : ((List.range (m + 1)).map fun (i : Nat) => D.int (tot p q a b (first + i)))[j + 1]? = some (.int (tot p q a b (first + (j + 1)))) := by
        rw [List.getElem?_map, List.getElem?_range (by omega)]
        simp
      have i2 : ((List.range (m + 1)).map fun (i : Nat) => D.int (tot p q a b (first + i)))[j]? = some (.int (tot p q a b (first + j))) := by
        rw [List.getElem?_map, List.getElem?_range (by omega)]
        simp
      have j1 : ∀ S, oIx (.lst ((List.range (m + 1)).map fun (i : Nat) => D.int (tot p q a b (first + i)))) (.int ((j : Int) + 1)) S = some (.int (tot p q a b (first + (j + 1))), S) := fun S => oIx_lst (n := j + 1) i1
      have j2 := fun S => oIx_lst (S := S) i2
      generalize ((List.range (m + 1)).map fun (i : Nat) => D.int (tot p q a b (first + i))) = l at h3 j1 j2
      unfold dut
      rw [← Int.add_assoc] at j1
      by_cases h : tot p q a b (first + j) < tot p q a b (first + j + 1)
      · simp [h3, h4, j1, j2, h, sgn]
      · simp [h3, h4, j1, j2, h, sgn]
  have jn := oJoin_sgn (S := S) (l := days p q a b first m) (by rw [days_len]; omega)
  simp only [b_row_of, w_row_of_0, w_row_of_1, tSeq_eq, tSet_eq, eLc_eq, sN_eq]
  simp [r1, r2, l1, l2, isStrD, jn]
theorem c_row_of {p q a b : Int} (r : IsRule p q a b) (first : Int) (m : Nat) (hm : m < 16777216) : callN Lib (n + 2) 65 [rul p q a b, .int first, .int m] S = .ok (.str (wrd (days p q a b first m))) S := by
  rw [callN_eq (d := f_row_of) rfl]
  exact run_keep rfl (b_row_of_ok (callN Lib (n + 1)) first m hm fun k => c_total_to r k)
theorem c_frac (x y : Int) (hy : 0 < y) (hy2 : y < 1000000000) : callN Lib (n + 2) 6 [.int x, .int y] S = .ok (.tup [.int (x / (Int.gcd x y : Nat)), .int (y / (Int.gcd x y : Nat))]) S := by
  rw [callN_eq (d := f_frac) rfl]
  refine run_keep rfl ?_
  have g1 : 0 < Int.gcd x y := Int.gcd_pos_of_ne_zero_right _ (by omega)
  have g2 : (Int.gcd x y : Int) ≤ y := Int.le_of_dvd hy (Int.gcd_dvd_right ..)
  have d := fun (i : Int) (S : Store) => oDiv_62 (S := S) (i := i) (j := (Int.gcd x y : Nat)) (by omega) (by omega)
  have h : ¬ y < 0 := by omega
  simp [b_frac, c_common x y (by omega), h, d]
end
end Q
namespace Q
def kk (q a b : Int) : Int := q * a / b
theorem tot_kk {p q a b : Int} (r : IsRule p q a b) (n : Int) : tot p q a b n = (n * p + kk q a b) / q := by
  unfold tot kk
  have hq := r.q1
  have hb := r.b1
  rw [Int.mul_comm q b, ← Int.ediv_ediv_of_nonneg (by omega : (0 : Int) ≤ b)]
  congr 1
  rw [Int.mul_comm a q, Int.add_comm, Int.add_mul_ediv_right _ _ (by omega : b ≠ 0), Int.add_comm]
theorem kk_nn {p q a b : Int} (r : IsRule p q a b) : 0 ≤ kk q a b := by
  unfold kk
  have hq := r.q1
  have hb := r.b1
  have ha := r.a0
  exact Int.ediv_nonneg (Int.mul_nonneg (by omega) ha) (by omega)
theorem kk_lt {p q a b : Int} (r : IsRule p q a b) : kk q a b < q := by
  unfold kk
  have hq := r.q1
  have hb := r.b1
  have ha := r.a1
  exact Int.ediv_lt_of_lt_mul (by omega) (Int.mul_lt_mul_of_pos_left ha (by omega))
def tf (p q k n : Int) : Int := (n * p + k) / q
structure IsForm (p q k : Int) : Prop where
  q1 : 1 ≤ q
  p0 : 0 ≤ p
  p1 : p ≤ q
  pq : Int.gcd p q = 1
  k0 : 0 ≤ k
  k1 : k < q
theorem IsRule.form {p q a b : Int} (r : IsRule p q a b) : IsForm p q (kk q a b) := ⟨r.q1, r.p0, r.p1, r.pq, kk_nn r, kk_lt r⟩
section
variable {p q k p1 q1 k1 p2 q2 k2 : Int}
theorem tf_zero (r : IsForm p q k) : tf p q k 0 = 0 := by
  unfold tf
  rw [Int.zero_mul, Int.zero_add]
  exact Int.ediv_eq_zero_of_lt r.k0 r.k1
theorem tf_turn (r : IsForm p q k) (n : Int) : tf p q k (n + q) = tf p q k n + p := by
  unfold tf
  have hq := r.q1
  rw [show (n + q) * p + k = n * p + k + p * q by rw [Int.add_mul, Int.mul_comm q p]; omega]
  exact Int.add_mul_ediv_right _ _ (by omega)
theorem tf_step (r : IsForm p q k) (n : Int) : tf p q k n ≤ tf p q k (n + 1) ∧ tf p q k (n + 1) ≤ tf p q k n + 1 := by
  have hq := r.q1
  have hp := r.p0
  have hp1 := r.p1
  unfold tf
  constructor
  · refine Int.ediv_le_ediv (by omega) ?_
    rw [Int.add_mul]; omega
  · have h : (n * p + k + 1 * q) / q = (n * p + k) / q + 1 := Int.add_mul_ediv_right _ _ (by omega)
    rw [← h]
    refine Int.ediv_le_ediv (by omega) ?_
    rw [Int.add_mul]; omega
def df (p q k n : Int) : Bool := decide (tf p q k n < tf p q k (n + 1))
theorem dut_df {p q a b : Int} (r : IsRule p q a b) (n : Int) : dut p q a b n = df p q (kk q a b) n := by
  unfold dut df tf
  rw [tot_kk r, tot_kk r]
theorem tf_of_df (r1 : IsForm p1 q1 k1) (r2 : IsForm p2 q2 k2) (m : Nat) (h : ∀ n : Nat, n < m → df p1 q1 k1 n = df p2 q2 k2 n) : ∀ n : Nat, n ≤ m → tf p1 q1 k1 n = tf p2 q2 k2 n
  | 0, _ => by rw [show ((0 : Nat) : Int) = 0 from rfl, tf_zero r1, tf_zero r2]
  | n + 1, hn => by
    have ih := tf_of_df r1 r2 m h n (by omega)
    have e := h n (by omega)
    have s1 := tf_step r1 n
    have s2 := tf_step r2 n
    unfold df at e
    rw [show ((n + 1 : Nat) : Int) = (n : Int) + 1 from rfl]
    by_cases c : tf p1 q1 k1 n < tf p1 q1 k1 (n + 1)
    · rw [decide_eq_true c] at e
      have c2 := of_decide_eq_true e.symm
      omega
    · rw [decide_eq_false c] at e
      have c2 := of_decide_eq_false e.symm
      omega
def sm (f : Nat → Int) : Nat → Int
  | 0 => 0
  | n + 1 => sm f n + f n
theorem sm_add (f : Nat → Int) (a : Nat) : ∀ b, sm f (a + b) = sm f a + sm (fun j => f (a + j)) b
  | 0 => by simp [sm]
  | b + 1 => by
    rw [← Nat.add_assoc]
    simp only [sm]
    rw [sm_add f a b]; omega
theorem sm_congr {f g : Nat → Int} : ∀ n, (∀ j, j < n → f j = g j) → sm f n = sm g n
  | 0, _ => rfl
  | n + 1, h => by
    simp only [sm]
    rw [sm_congr n (fun j hj => h j (by omega)), h n (by omega)]
theorem sm_cadd (f : Nat → Int) (c : Int) : ∀ n : Nat, sm (fun j => f j + c) n = sm f n + n * c
  | 0 => by simp [sm]
  | n + 1 => by
    simp only [sm]
    rw [sm_cadd f c n, show ((n + 1 : Nat) : Int) = (n : Int) + 1 from rfl, Int.add_mul]; omega
theorem bez : ∀ a b : Nat, ∃ x y : Int, x * a + y * b = Nat.gcd a b := by
  intro a b
  induction a, b using Nat.gcd.induction with
  | H0 n => exact ⟨0, 1, by simp⟩
  | H1 m n hm ih =>
    obtain ⟨x, y, e⟩ := ih
    refine ⟨y - x * (n / m : Nat), x, ?_⟩
    rw [Nat.gcd_rec, ← e]
    have h : ((n % m : Nat) : Int) = n - m * (n / m : Nat) := by
      have := Nat.div_add_mod n m
      have h2 : ((m * (n / m) + n % m : Nat) : Int) = (n : Int) := by rw [this]
      rw [Int.natCast_add, Int.natCast_mul] at h2
      omega
    rw [h, Int.sub_mul, Int.mul_sub, Int.mul_assoc x, Int.mul_comm ((n / m : Nat) : Int) m]; omega
theorem hits (hp : 0 ≤ p) (hq : 1 ≤ q) (pq : Int.gcd p q = 1) (k : Int) : ∃ n : Nat, (n : Int) < q ∧ ∃ m : Int, n * p + k = m * q := by
  obtain ⟨x, y, e⟩ := bez p.toNat q.toNat
  have e1 : (p.toNat : Int) = p := by omega
  have e2 : (q.toNat : Int) = q := by omega
  have e3 : Nat.gcd p.toNat q.toNat = 1 := by
    have : Int.gcd (p.toNat : Int) (q.toNat : Int) = 1 := by rw [e1, e2]; exact pq
    exact this
  rw [e1, e2, e3] at e
  have n0 := Int.emod_nonneg (-k * x) (show q ≠ 0 by omega)
  have n1 := Int.emod_lt_of_pos (-k * x) (show 0 < q by omega)
  refine ⟨((-k * x) % q).toNat, by omega, -((-k * x) / q) * p + k * y, ?_⟩
  have e4 : ((((-k * x) % q).toNat : Nat) : Int) = (-k * x) % q := by omega
  have e5 : (-k * x) % q = -k * x - q * ((-k * x) / q) := by
    have := Int.mul_ediv_add_emod (-k * x) q
    omega
  rw [e4, e5]
  generalize (-k * x) / q = z
  have e6 : k * (x * p) + k * (y * q) = k := by rw [← Int.mul_add, e]; simp
  rw [Int.sub_mul, Int.neg_mul, Int.neg_mul, Int.mul_assoc, Int.add_mul, Int.neg_mul, Int.neg_mul, Int.mul_assoc k y, Int.mul_assoc q, Int.mul_assoc z, Int.mul_comm p q, Int.mul_left_comm z]
  omega
theorem kk_of (r1 : IsForm p q k1) (r2 : IsForm p q k2) (h : ∀ n : Nat, (n : Int) < q → tf p q k1 n = tf p q k2 n) : ¬ k1 < k2 := fun hlt => by
  have hq := r1.q1
  obtain ⟨n, hn, m, e⟩ := hits r1.p0 r1.q1 r1.pq k2
  have := h n hn
  unfold tf at this
  rw [e, Int.mul_ediv_cancel _ (by omega)] at this
  have h2 : n * p + k1 < m * q := by omega
  have h3 := Int.ediv_lt_of_lt_mul (by omega) h2
  omega
theorem form_one (r1 : IsForm p1 q1 k1) (r2 : IsForm p2 q2 k2) (h : ∀ n : Nat, (n : Int) < q1 + q2 → df p1 q1 k1 n = df p2 q2 k2 n) : p1 = p2 ∧ q1 = q2 ∧ k1 = k2 := by
  have h1 := r1.q1; have h2 := r2.q1
  obtain ⟨a, rfl⟩ := Int.eq_ofNat_of_zero_le (show 0 ≤ q1 by omega)
  obtain ⟨b, rfl⟩ := Int.eq_ofNat_of_zero_le (show 0 ≤ q2 by omega)
  have t := tf_of_df r1 r2 (a + b) (fun n hn => h n (by omega))
  -- the sums
  have s1 : sm (fun n => tf p1 a k1 n) (a + b) = sm (fun n => tf p1 a k1 n) a + (sm (fun n => tf p1 a k1 n) b + b * p1) := by
    rw [sm_add, ← sm_cadd]
    congr 1
    refine sm_congr _ fun j _ => ?_
    rw [← tf_turn r1, Int.natCast_add, Int.add_comm]
  have s2 : sm (fun n => tf p2 b k2 n) (b + a) = sm (fun n => tf p2 b k2 n) b + (sm (fun n => tf p2 b k2 n) a + a * p2) := by
    rw [sm_add, ← sm_cadd]
    congr 1
    refine sm_congr _ fun j _ => ?_
    rw [← tf_turn r2, Int.natCast_add, Int.add_comm]
  rw [sm_congr (f := fun n => tf p2 b k2 n) (g := fun n => tf p1 a k1 n) (b + a) (fun j hj => (t j (by omega)).symm), sm_congr (f := fun n => tf p2 b k2 n) (g := fun n => tf p1 a k1 n) b (fun j hj => (t j (by omega)).symm), sm_congr (f := fun n => tf p2 b k2 n) (g := fun n => tf p1 a k1 n) a (fun j hj => (t j (by omega)).symm), Nat.add_comm b a] at s2
  have key : (b : Int) * p1 = a * p2 := by omega
  obtain ⟨c, rfl⟩ := Int.eq_ofNat_of_zero_le r1.p0
  obtain ⟨d, rfl⟩ := Int.eq_ofNat_of_zero_le r2.p0
  have keyN : b * c = a * d := by
    have : ((b * c : Nat) : Int) = ((a * d : Nat) : Int) := by rw [Int.natCast_mul, Int.natCast_mul]; exact key
    exact Int.ofNat.inj this
  have g1 : Nat.Coprime c a := r1.pq
  have g2 : Nat.Coprime d b := r2.pq
  have ab : a = b := Nat.dvd_antisymm (g1.symm.dvd_of_dvd_mul_right ⟨d, keyN⟩) (g2.symm.dvd_of_dvd_mul_right ⟨c, keyN.symm⟩)
  subst ab
  have cd : c = d := Nat.eq_of_mul_eq_mul_left (by omega) keyN
  subst cd
  refine ⟨rfl, rfl, ?_⟩
  have t2 : ∀ n : Nat, (n : Int) < a → tf c a k1 n = tf c a k2 n := fun n hn => t n (by omega)
  have u1 := kk_of r1 r2 t2
  have u2 := kk_of r2 r1 (fun n hn => (t2 n hn).symm)
  omega
end
def lo (x y : Int) : Int × Int := (x / (Int.gcd x y : Nat), y / (Int.gcd x y : Nat))
section
variable {x y : Int}
theorem lo_g (hy : 0 < y) : 0 < (Int.gcd x y : Int) ∧ (Int.gcd x y : Int) ≤ y := by
  have g1 : 0 < Int.gcd x y := Int.gcd_pos_of_ne_zero_right _ (by omega)
  have g2 : (Int.gcd x y : Int) ≤ y := Int.le_of_dvd hy (Int.gcd_dvd_right ..)
  omega
theorem lo_x : (lo x y).1 * (Int.gcd x y : Nat) = x := Int.ediv_mul_cancel (Int.gcd_dvd_left ..)
theorem lo_y : (lo x y).2 * (Int.gcd x y : Nat) = y := Int.ediv_mul_cancel (Int.gcd_dvd_right ..)
theorem lo_y1 (hy : 0 < y) : 1 ≤ (lo x y).2 := by
  obtain ⟨g1, g2⟩ := lo_g (x := x) hy
  exact Int.le_ediv_of_mul_le g1 (by omega)
theorem lo_y2 (hy : 0 < y) : (lo x y).2 ≤ y := by
  obtain ⟨g1, g2⟩ := lo_g (x := x) hy
  refine Int.ediv_le_self _ (by omega)
theorem lo_x0 (hx : 0 ≤ x) : 0 ≤ (lo x y).1 := Int.ediv_nonneg hx (by omega)
theorem lo_le (hy : 0 < y) (h : x ≤ y) : (lo x y).1 ≤ (lo x y).2 := by
  obtain ⟨g1, g2⟩ := lo_g (x := x) hy
  exact Int.ediv_le_ediv g1 h
theorem lo_lt (hy : 0 < y) (h : x < y) : (lo x y).1 < (lo x y).2 := by
  obtain ⟨g1, g2⟩ := lo_g (x := x) hy
  have e1 := lo_x (x := x) (y := y)
  have e2 := lo_y (x := x) (y := y)
  refine Int.lt_of_mul_lt_mul_right (a := (Int.gcd x y : Int)) ?_ (by omega)
  omega
theorem lo_gcd (hy : 0 < y) : Int.gcd (lo x y).1 (lo x y).2 = 1 := by
  have g1 : 0 < Int.gcd x y := Int.gcd_pos_of_ne_zero_right _ (by omega)
  exact Int.gcd_ediv_gcd_ediv_gcd g1
theorem lo_rule {p q a b : Int} (hq : 0 < q) (hq2 : q ≤ 10000) (hp : 0 ≤ p) (hp1 : p ≤ q) (hb : 0 < b) (hb2 : b ≤ 10000) (ha : 0 ≤ a) (ha1 : a < b) : IsRule (lo p q).1 (lo p q).2 (lo a b).1 (lo a b).2 :=
  ⟨lo_y1 hq, Int.le_trans (lo_y2 hq) hq2, lo_x0 hp, lo_le hq hp1, lo_gcd hq, lo_y1 hb, Int.le_trans (lo_y2 hb) hb2, lo_x0 ha, lo_lt hb ha1, lo_gcd hb⟩
theorem lo_self (h : Int.gcd x y = 1) : lo x y = (x, y) := by
  unfold lo
  rw [h]
  simp
theorem kk_lo {q k : Int} (hq : 0 < q) : kk q (lo k q).1 (lo k q).2 = k := by
  unfold kk
  have e1 := lo_x (x := k) (y := q)
  have e2 := lo_y (x := k) (y := q)
  have y1 := lo_y1 (x := k) hq
  generalize (lo k q).1 = u at *
  generalize (lo k q).2 = v at *
  generalize ((Int.gcd k q : Nat) : Int) = g at *
  rw [← e2, show v * g * u = u * g * v by rw [Int.mul_comm v g, Int.mul_comm u g, Int.mul_assoc, Int.mul_assoc, Int.mul_comm v u], Int.mul_ediv_cancel _ (by omega), e1]
end
end Q
namespace Q
open PySem L2
section
variable {n : Nat} {S : Store}
theorem oEq_form {a b c x y z : Int} : oEq (.tup [.int a, .int b, .int c]) (.tup [.int x, .int y, .int z]) S = some (.bl (decide (a = x ∧ b = y ∧ c = z)), S) := by
  have e : (a == x && (b == y && c == z)) = decide (a = x ∧ b = y ∧ c = z) := by rw [Bool.eq_iff_iff]; simp
  simp [oEq, eqD, pdT, D.pd, pds, SeqAt.shaped, PyData.canLay0, PyData.canLayAll0, PyData.depth, PyData.depthAll, PyData.eqv, PyData.eqvAll, e]
def loD (x y : Int) : D := .tup [.int (lo x y).1, .int (lo x y).2]
def frm (p q k : Int) : D := .tup [.int p, .int q, .int k]
theorem c_frac' (x y : Int) (hy : 0 < y) (hy2 : y < 1000000000) : callN Lib (n + 2) 6 [.int x, .int y] S = .ok (loD x y) S := c_frac x y hy hy2
theorem rul_lo {p q k : Int} (f : IsForm p q k) : D.tup [loD p q, loD k q] = rul p q (lo k q).1 (lo k q).2 := by
  unfold loD rul
  rw [lo_self f.pq]
theorem within_true {i l h : Int} (h1 : l ≤ i) (h2 : i ≤ h) : callN Lib (n + 2) 2 [.int i, .int l, .int h] S = .ok (.bl true) S := by
  rw [c_is_within, decide_eq_true ⟨h1, h2⟩]
def fst? (f : Nat → Bool) : Nat → Nat → Option Nat
  | _, 0 => none
  | j, m + 1 => if f j then some j else fst? f (j + 1) m
theorem fst_some {f : Nat → Bool} : ∀ {m j i : Nat}, fst? f j m = some i → j ≤ i ∧ i < j + m ∧ f i = true ∧ ∀ l, j ≤ l → l < i → f l = false
  | 0, _, _, h => by cases h
  | m + 1, j, i, h => by
    unfold fst? at h
    by_cases c : f j = true
    · rw [if_pos c] at h
      cases h
      exact ⟨Nat.le_refl _, by omega, c, fun l h1 h2 => by omega⟩
    · rw [if_neg c] at h
      obtain ⟨h1, h2, h3, h4⟩ := fst_some h
      refine ⟨by omega, by omega, h3, fun l h5 h6 => ?_⟩
      by_cases e : l = j
      · subst e; simpa using c
      · exact h4 l (by omega) h6
theorem fst_none {f : Nat → Bool} : ∀ {m j : Nat}, fst? f j m = none → ∀ l, j ≤ l → l < j + m → f l = false
  | 0, j, _, l, h1, h2 => by omega
  | m + 1, j, h, l, h1, h2 => by
    unfold fst? at h
    by_cases c : f j = true
    · rw [if_pos c] at h; cases h
    · rw [if_neg c] at h
      by_cases e : l = j
      · subst e; simpa using c
      · exact fst_none h l (by omega) (by omega)
theorem for_fst {i : Nat} {b : TSt} (f : Nat → Bool) : ∀ (m j : Nat) (s : Sl), i < s.length → (∀ (l : Nat) (s' : Sl), s'.length = s.length → (∀ u, u ≠ i → s'[u]? = s[u]?) → s'[i]? = some (some (.int l)) → l < j + m →  b s' S = if f l then some (.ret (.int l), S) else some (.nx s', S)) →
    ∃ s', forL (.nm i) b ((List.range' j m).map fun (l : Nat) => .int l) s S = match fst? f j m with | some l => some (.ret (.int l), S) | none => some (.nx s', S)
  | 0, j, s, hi, h => ⟨s, by simp [forL, fst?]⟩
  | m + 1, j, s, hi, h => by
    have hb := h j (s.set i (some (.int j))) (by simp) (fun u hu => by rw [List.getElem?_set_ne (Ne.symm hu)]) (by simp [hi]) (by omega)
    obtain ⟨s', e⟩ := for_fst f m (j + 1) (s.set i (some (.int j))) (by simp [hi]) (fun l s2 h1 h2 h3 h4 => h l s2 (by simp [h1]) (fun u hu => by rw [h2 u hu, List.getElem?_set_ne (Ne.symm hu)]) h3 (by omega))
    refine ⟨s', ?_⟩
    rw [List.range'_succ, List.map_cons]
    unfold forL
    simp only [put_nm, hb]
    unfold fst?
    cases c : f j with
    | true => simp
    | false => simpa using e
theorem rngL_zero (m : Nat) : rngL 0 m = (List.range' 0 m).map fun (l : Nat) => .int l := by
  unfold rngL
  rw [List.range_eq_range']
  simp
def part (p1 q1 a1 b1 p2 q2 a2 b2 : Int) : Option Nat :=
  if p1 = p2 ∧ q1 = q2 ∧ kk q1 a1 b1 = kk q2 a2 b2 then none
  else fst? (fun l => dut p1 q1 a1 b1 l != dut p2 q2 a2 b2 l) 0 (q1 + q2).toNat
def natD : Option Nat → D
  | none => .non
  | some l => .int l
theorem fst_congr {f g : Nat → Bool} (h : ∀ l, f l = g l) : fst? f = fst? g := by
  have : f = g := funext h
  rw [this]
theorem part_comm (p1 q1 a1 b1 p2 q2 a2 b2 : Int) : part p1 q1 a1 b1 p2 q2 a2 b2 = part p2 q2 a2 b2 p1 q1 a1 b1 := by
  unfold part
  have e : (p1 = p2 ∧ q1 = q2 ∧ kk q1 a1 b1 = kk q2 a2 b2) = (p2 = p1 ∧ q2 = q1 ∧ kk q2 a2 b2 = kk q1 a1 b1) := propext ⟨fun z => ⟨z.1.symm, z.2.1.symm, z.2.2.symm⟩, fun z => ⟨z.1.symm, z.2.1.symm, z.2.2.symm⟩⟩
  have f : fst? (fun l => dut p1 q1 a1 b1 l != dut p2 q2 a2 b2 l) = fst? (fun l => dut p2 q2 a2 b2 l != dut p1 q1 a1 b1 l) := fst_congr fun l => by
    cases dut p1 q1 a1 b1 l <;> cases dut p2 q2 a2 b2 l <;> rfl
  rw [f, Int.add_comm q1 q2]
  by_cases c : p1 = p2 ∧ q1 = q2 ∧ kk q1 a1 b1 = kk q2 a2 b2
  · rw [if_pos c, if_pos (e ▸ c)]
  · rw [if_neg c, if_neg (e ▸ c)]
theorem part_some {p1 q1 a1 b1 p2 q2 a2 b2 : Int} (r1 : IsRule p1 q1 a1 b1) (r2 : IsRule p2 q2 a2 b2) (h : ¬ (p1 = p2 ∧ q1 = q2 ∧ kk q1 a1 b1 = kk q2 a2 b2)) : ∃ l, part p1 q1 a1 b1 p2 q2 a2 b2 = some l ∧ (l : Int) < q1 + q2 ∧ ∀ j : Nat, j < l → dut p1 q1 a1 b1 j = dut p2 q2 a2 b2 j := by
  unfold part
  rw [if_neg h]
  cases e : fst? (fun l => dut p1 q1 a1 b1 l != dut p2 q2 a2 b2 l) 0 (q1 + q2).toNat with
  | none =>
    refine absurd (form_one r1.form r2.form fun j hj => ?_) h
    have := fst_none e j (by omega) (by omega)
    rw [← dut_df r1, ← dut_df r2]
    simpa using this
  | some l =>
    obtain ⟨e1, e2, e3, e4⟩ := fst_some e
    refine ⟨l, rfl, by omega, fun j hj => ?_⟩
    have := e4 j (by omega) hj
    simpa using this
end
end Q
namespace Q
open PySem L2
section
variable {n : Nat} {S : Store}
theorem blsOf_true (ds : List D) : blsOf (ds.map fun _ => D.bl true) = some (ds.map fun _ => true) := by
  induction ds with
  | nil => rfl
  | cons d ds ih => simp only [List.map_cons, blsOf, ih]; rfl
theorem all_true (ds : List D) : (ds.map fun _ => true).all id = true := by
  induction ds with
  | nil => rfl
  | cons d ds ih => simp only [List.map_cons, List.all_cons, ih]; rfl
theorem mem_zip {ds : List D} {z : D} (h : z ∈ List.zipWith (fun d e => D.tup [d, e]) ds ds) : ∃ d ∈ ds, z = .tup [d, d] := by
  induction ds with
  | nil => cases h
  | cons d ds ih =>
    rw [List.zipWith_cons_cons] at h
    cases h with
    | head => exact ⟨d, List.mem_cons_self, rfl⟩
    | tail _ h => obtain ⟨e, h1, h2⟩ := ih h; exact ⟨e, List.mem_cons_of_mem _ h1, h2⟩
@[simp] theorem oPow_4 : oPow (.int 10) (.int 4) S = some (.int 10000, S) := (oPow_10 (n := 4)).trans (by simp)
@[simp] theorem oPow_9 : oPow (.int 10) (.int 9) S = some (.int 1000000000, S) := (oPow_10 (n := 9)).trans (by simp)
@[simp] theorem oPow_12 : oPow (.int 10) (.int 12) S = some (.int 1000000000000, S) := (oPow_10 (n := 12)).trans (by simp)
@[simp] theorem oPow_18 : oPow (.int 10) (.int 18) S = some (.int 1000000000000000000, S) := (oPow_10 (n := 18)).trans (by simp)
theorem c_anyi {k : Nat} (H : Hd k S) (vs : List Int) (h0 : 0 < vs.length) (h1 : vs.length ≤ 1000) (P : Int → Prop) (hP : ∀ v ∈ vs, P v) :
    ∃ v S', callN Lib (n + 2) 233 [.ptr k, .lst (vs.map .int)] S = .ok (.int v) S' ∧ Hd k S' ∧ Upd k S S' ∧ P v := by
  obtain ⟨d, S', e, H', U, m⟩ := c_any (n := n) H (vs.map .int) (by simpa using h0) (by rw [List.length_map]; omega)
  obtain ⟨v, hv, rfl⟩ := List.mem_map.mp m
  exact ⟨v, S', e, H', U, hP v hv⟩
end
end Q
namespace Q
open PySem L2
section
variable {n : Nat} {S : Store}
theorem lc_same {c : CallT} {s : Sl} {ds : List D} (h3 : 3 < s.length) (h : ∀ d ∈ ds, c 234 [d, d] S = .ok (.bl true) S) (hl : ds.length ≤ 1000) :
    lcL (.tp [.nm 2, .nm 3]) (eC (.bl true)) (eCall c 234 [eV 2, eV 3]) s (List.zipWith (fun d e => D.tup [d, e]) ds ds) [] S = .ok (.lst ((List.zipWith (fun d e => D.tup [d, e]) ds ds).map fun _ => .bl true)) S := by
  rw [lc_mapP (fun _ => .bl true)]
  · rfl
  · intro z hz
    obtain ⟨d, hd, rfl⟩ := mem_zip hz
    refine ⟨(s.set 2 (some d)).set 3 (some d), by simp, rfl, ?_⟩
    have h2 : 2 < s.length := by omega
    simp [h2, h3, h d hd]
  · rw [PySem.sizeLine_eq, List.length_zipWith]
    simp
    omega
theorem c_same_int (i : Int) : callN Lib (n + 1) 234 [.int i, .int i] S = .ok (.bl true) S := by
  rw [callN_eq (d := f_law_same_v2) rfl]
  refine run_keep rfl ?_
  simp [b_law_same_v2, w_law_same_v2_0, oIsi, Ty.of, Ty.eqb]
theorem c_same_non : callN Lib (n + 1) 234 [.non, .non] S = .ok (.bl true) S := by
  rw [callN_eq (d := f_law_same_v2) rfl]
  refine run_keep rfl ?_
  have e : ∀ S, oEq .non .non S = some (.bl true, S) := fun S => by
    simp [oEq, eqD, pdT, D.pd, SeqAt.shaped, PyData.canLay0, PyData.depth, PyData.eqv]
  simp [b_law_same_v2, w_law_same_v2_0, oIsi, Ty.of, Ty.eqb, e]
theorem c_same_bl (x : Bool) : callN Lib (n + 1) 234 [.bl x, .bl x] S = .ok (.bl true) S := by
  rw [callN_eq (d := f_law_same_v2) rfl]
  refine run_keep rfl ?_
  simp [b_law_same_v2, w_law_same_v2_0, oIsi, Ty.of, Ty.eqb]
theorem c_same_str (x : Str) : callN Lib (n + 1) 234 [.str x, .str x] S = .ok (.bl true) S := by
  rw [callN_eq (d := f_law_same_v2) rfl]
  refine run_keep rfl ?_
  simp [b_law_same_v2, w_law_same_v2_0, oIsi, Ty.of, Ty.eqb]
theorem c_same_tup (ds : List D) (h : ∀ d ∈ ds, callN Lib n 234 [d, d] S = .ok (.bl true) S) (hl : ds.length ≤ 1000) : callN Lib (n + 1) 234 [.tup ds, .tup ds] S = .ok (.bl true) S := by
  rw [callN_eq (d := f_law_same_v2) rfl]
  generalize hc : callN Lib n = c at h ⊢
  refine run_keep rfl ?_
  have l := fun s (h3 : 3 < s.length) => lc_same (c := c) (s := s) (S := S) h3 h hl
  generalize he : List.zipWith (fun d e => D.tup [d, e]) ds ds = z at l
  have iz : iZip [.tup ds, .tup ds] = some z := by rw [← he]; rfl
  simp [b_law_same_v2, w_law_same_v2_0, oIsi, Ty.of, Ty.eqb, iz, l, oAll, blsOf_true, all_true]
theorem c_same_lst (ds : List D) (h : ∀ d ∈ ds, callN Lib n 234 [d, d] S = .ok (.bl true) S) (hl : ds.length ≤ 1000) : callN Lib (n + 1) 234 [.lst ds, .lst ds] S = .ok (.bl true) S := by
  rw [callN_eq (d := f_law_same_v2) rfl]
  generalize hc : callN Lib n = c at h ⊢
  refine run_keep rfl ?_
  have l := fun s (h3 : 3 < s.length) => lc_same (c := c) (s := s) (S := S) h3 h hl
  generalize he : List.zipWith (fun d e => D.tup [d, e]) ds ds = z at l
  have iz : iZip [.lst ds, .lst ds] = some z := by rw [← he]; rfl
  simp [b_law_same_v2, w_law_same_v2_0, oIsi, Ty.of, Ty.eqb, iz, l, oAll, blsOf_true, all_true]
theorem same_tup2 {x y : D} (h1 : callN Lib n 234 [x, x] S = .ok (.bl true) S) (h2 : callN Lib n 234 [y, y] S = .ok (.bl true) S) : callN Lib (n + 1) 234 [.tup [x, y], .tup [x, y]] S = .ok (.bl true) S :=
  c_same_tup _ (fun d hd => by
    rcases List.mem_cons.mp hd with rfl | hd
    · exact h1
    · rw [List.mem_singleton.mp hd]; exact h2) (by simp)
theorem same_lst2 {x y : D} (h1 : callN Lib n 234 [x, x] S = .ok (.bl true) S) (h2 : callN Lib n 234 [y, y] S = .ok (.bl true) S) : callN Lib (n + 1) 234 [.lst [x, y], .lst [x, y]] S = .ok (.bl true) S :=
  c_same_lst _ (fun d hd => by
    rcases List.mem_cons.mp hd with rfl | hd
    · exact h1
    · rw [List.mem_singleton.mp hd]; exact h2) (by simp)
theorem same_ints (vs : List Int) (hl : vs.length ≤ 1000) : callN Lib (n + 2) 234 [.tup (vs.map .int), .tup (vs.map .int)] S = .ok (.bl true) S :=
  c_same_tup _ (fun d hd => by
    obtain ⟨i, _, rfl⟩ := List.mem_map.mp hd
    exact c_same_int i) (by simpa using hl)
theorem same_frm (p q k : Int) : callN Lib (n + 2) 234 [frm p q k, frm p q k] S = .ok (.bl true) S := same_ints [p, q, k] (by simp)
theorem same_rul (p q a b : Int) : callN Lib (n + 3) 234 [rul p q a b, rul p q a b] S = .ok (.bl true) S := same_tup2 (same_ints [p, q] (by simp)) (same_ints [a, b] (by simp))
theorem same_natD (o : Option Nat) : callN Lib (n + 1) 234 [natD o, natD o] S = .ok (.bl true) S := by
  cases o with
  | none => exact c_same_non
  | some l => exact c_same_int l
end
end Q
namespace Q
open PySem L2
section
variable {n : Nat} {S : Store}
theorem lgcd_turns (c : CallT) : ∀ (m : Nat) (x y : Nat), y ≤ m → ∃ k, k ≤ m + 1 ∧ whL (e2 oGt (eV 1) (eC (.int 0))) (tSet (.tp [.nm 0, .nm 1]) (eTup [eV 1, e2 oMod (eN oInt [eV 0]) (eV 1)])) k [some (.int x), some (.int y)] S = some (.nx [some (.int (Nat.gcd x y : Nat)), some (.int 0)], S) := by
  intro m
  induction m with
  | zero =>
    intro x y hy
    obtain rfl : y = 0 := by omega
    refine ⟨1, by omega, ?_⟩
    simp [whL]
  | succ m ih =>
    intro x y hy
    by_cases h0 : y = 0
    · subst h0
      refine ⟨1, by omega, ?_⟩
      simp [whL]
    · have hlt : x % y < y := Nat.mod_lt _ (by omega)
      obtain ⟨k, hk, e⟩ := ih y (x % y) (by omega)
      refine ⟨k + 1, by omega, ?_⟩
      have hp : (0 : Int) < (y : Int) := by omega
      unfold whL
      simp [hp, oMod_pos hp]
      have e2 : ((x : Int) % (y : Int)) = ((x % y : Nat) : Int) := by simp
      rw [e2, e, Nat.gcd_comm y (x % y), ← Nat.gcd_rec y x, Nat.gcd_comm y x]
      have h1 : 0 < y := by omega
      simp [h1]
end
end Q
namespace Q
open PySem L2
section
variable {n : Nat} {S : Store}
def notInt : D → Bool
  | .int _ => false
  | .ptr _ => false
  | .obj _ => false
  | .src _ => false
  | .fn _ => false
  | .ins _ _ => false
  | .exc _ _ => false
  | _ => true
theorem c_not_integer (d : D) (h : notInt d = true) : callN Lib (n + 1) 1 [d] S = .ok (.bl false) S := by
  rw [callN_eq (d := f_is_integer) rfl]
  refine run_keep rfl ?_
  cases d <;> first | (cases h; done) | simp [b_is_integer, oIsi, Ty.of, Ty.eqb]
theorem c_not_within (d : D) (l h : Int) (hd : notInt d = true) : callN Lib (n + 2) 2 [d, .int l, .int h] S = .ok (.bl false) S := by
  rw [callN_eq (d := f_is_within) rfl]
  refine run_keep rfl ?_
  simp [b_is_within, c_not_integer d hd]
end
end Q
namespace Q
open PySem L2
def Store.dead (S : Store) : Store := ⟨S.L ++ [none], S.O⟩
section
variable {S : Store} {k j : Nat} {xs ys : List D}
@[simp] theorem new_len' : (S.new xs).L.length = S.L.length + 1 := by unfold Store.new; simp
@[simp] theorem dead_len : S.dead.L.length = S.L.length + 1 := by unfold Store.dead; simp
@[simp] theorem new_get_at (h : j = S.L.length) : (S.new xs).get j = some xs := by subst h; exact get_new_self
@[simp] theorem new_put_at (h : j = S.L.length) : (S.new xs).put j ys = S.new ys := by subst h; unfold Store.new Store.put; simp
@[simp] theorem new_del_at (h : j = S.L.length) : (S.new xs).del j = S.dead := by subst h; unfold Store.new Store.del Store.dead; simp
theorem new_put_lt (h : k < S.L.length) : (S.new xs).put k ys = (S.put k ys).new xs := by unfold Store.new Store.put; simp [List.set_append_left _ _ h]
theorem dead_put_lt (h : k < S.L.length) : S.dead.put k ys = (S.put k ys).dead := by unfold Store.dead Store.put; simp [List.set_append_left _ _ h]
theorem dead_get_lt (h : k < S.L.length) : S.dead.get k = S.get k := by unfold Store.dead Store.get; simp [List.getElem?_append_left h]
@[simp] theorem dead_cut (h : j = S.L.length) : S.dead.cut j = S := by subst h; unfold Store.dead Store.cut; simp
@[simp] theorem new_cut (h : j = S.L.length) : (S.new xs).cut j = S := by subst h; unfold Store.new Store.cut; simp
@[simp] theorem cut_all (h : j = S.L.length) : S.cut j = S := by subst h; unfold Store.cut; simp
end
def Grow (k : Nat) (S S' : Store) : Prop := ∃ xs T, S' = ⟨S.L.set k (some xs) ++ T, S.O⟩
theorem Upd.grow {k : Nat} {S S' : Store} (h : Upd k S S') : Grow k S S' := by
  obtain ⟨xs, rfl⟩ := h
  exact ⟨xs, [], by unfold Store.put; simp⟩
theorem Grow.dead {k : Nat} {S S' : Store} (h : Grow k S S') : Grow k S S'.dead := by
  obtain ⟨xs, T, rfl⟩ := h
  exact ⟨xs, T ++ [none], by unfold Store.dead; simp⟩
theorem Grow.new {k : Nat} {S S' : Store} (h : Grow k S S') (ys : List D) : Grow k S (S'.new ys) := by
  obtain ⟨xs, T, rfl⟩ := h
  exact ⟨xs, T ++ [some ys], by unfold Store.new; simp⟩
theorem Hd.lt' {k : Nat} {S : Store} (h : Hd k S) : k < S.L.length := h.elim fun _ z => get_lt z.1
theorem Grow.trans {k : Nat} {S S1 S2 : Store} (h0 : Hd k S) (a : Grow k S S1) (b : Grow k S1 S2) : Grow k S S2 := by
  obtain ⟨xs, T, rfl⟩ := a
  obtain ⟨ys, U, rfl⟩ := b
  refine ⟨ys, T ++ U, ?_⟩
  have := h0.lt'
  simp [List.set_append_left _ _ (show k < (S.L.set k (some xs)).length by simpa using this)]
theorem Grow.refl {k : Nat} {S : Store} (h : Hd k S) : Grow k S S := (Upd.refl h).grow
theorem Hd.dead {k : Nat} {S : Store} (h : Hd k S) : Hd k S.dead := by
  obtain ⟨x, g, ok⟩ := h
  exact ⟨x, by rw [dead_get_lt (get_lt g)]; exact g, ok⟩
theorem Hd.new' {k : Nat} {S : Store} (h : Hd k S) (xs : List D) : Hd k (S.new xs) := by
  obtain ⟨x, g, ok⟩ := h
  exact ⟨x, by rw [get_new_lt (get_lt g)]; exact g, ok⟩
theorem Grow.cut {k : Nat} {S S' : Store} (h0 : Hd k S) (h : Hd k S') (g : Grow k S S') : Hd k (S'.cut S.L.length) ∧ Upd k S (S'.cut S.L.length) := by
  obtain ⟨xs, T, rfl⟩ := g
  have hl := h0.lt'
  have e : (⟨S.L.set k (some xs) ++ T, S.O⟩ : Store).cut S.L.length = S.put k xs := by
    unfold Store.cut Store.put
    simp [List.take_append_of_le_length]
  rw [e]
  refine ⟨?_, ⟨xs, rfl⟩⟩
  obtain ⟨x, g, ok⟩ := h
  refine ⟨x, ?_, ok⟩
  have e2 : (S.put k xs).get k = some xs := by
    obtain ⟨y, gy, _⟩ := h0
    exact get_put_self gy
  rw [e2]
  unfold Store.get at g
  simp only at g
  rw [List.getElem?_append_left (by simpa using hl), List.getElem?_set_self hl] at g
  exact g
theorem Upd.len' {k : Nat} {S S' : Store} (h : Upd k S S') : S'.L.length = S.L.length := by
  obtain ⟨xs, rfl⟩ := h
  exact put_len
theorem Upd.other' {k j : Nat} {S S' : Store} (h : Upd k S S') (hj : j ≠ k) : S'.get j = S.get j := by
  obtain ⟨xs, rfl⟩ := h
  exact get_put_ne hj
theorem Upd.new_out {k : Nat} {S S' : Store} {xs : List D} (h0 : Hd k S) (h : Upd k (S.new xs) S') (H : Hd k S') : ∃ S1, S' = S1.new xs ∧ Hd k S1 ∧ Upd k S S1 := by
  obtain ⟨ys, rfl⟩ := h
  rw [new_put_lt h0.lt'] at H ⊢
  refine ⟨_, rfl, ?_, ⟨ys, rfl⟩⟩
  obtain ⟨x, g, ok⟩ := H
  rw [get_new_lt (by rw [put_len]; exact h0.lt')] at g
  exact ⟨x, g, ok⟩
@[simp] theorem append_at {S : Store} {j : Nat} {xs : List D} {d : D} (h : j = S.L.length) (hl : xs.length ≤ 100000) (hf : d.flat = true) : oAppend [.ptr j, d] (S.new xs) = some (.non, S.new (xs ++ [d])) := by
  have e : lineOk xs.length = true := by unfold lineOk; rw [decide_eq_true_iff, PySem.sizeLine_eq]; omega
  simp [oAppend, new_get_at h, e, hf, new_put_at h]
@[simp] theorem isLst_at {S : Store} {j : Nat} {xs : List D} (h : j = S.L.length) : isLstD (.ptr j) (S.new xs) = true := by simp [isLstD, itemsL, new_get_at h]
theorem frz_at {S : Store} {j i : Nat} {xs : List D} {s : Sl} (hs : s[i]? = some (some (.ptr j))) (h : j = S.L.length) : frzS i s (S.new xs) = some (s.set i (some (.lst xs)), S.dead) := by
  unfold frzS
  rw [hs]
  simp only [new_get_at h, new_del_at h]
def plainD : Nat → D → Bool
  | _, .non => true
  | _, .bl _ => true
  | _, .int _ => true
  | _, .str _ => true
  | n + 1, .tup ds => decide (ds.length ≤ 1000) && ds.all (plainD n)
  | n + 1, .lst ds => decide (ds.length ≤ 1000) && ds.all (plainD n)
  | _, _ => false
theorem for_pre {p : Pat} {b : TSt} (F : List D → Store) (st : Option D → Sl) : ∀ (ds pre : List D), (∀ d ∈ ds, ∀ o, p.put d (st o) = some (st (some d))) → (∀ q d r, ds = q ++ d :: r → b (st (some d)) (F (pre ++ q)) = some (.nx (st (some d)), F (pre ++ (q ++ [d])))) →
    ∀ o, forL p b ds (st o) (F pre) = some (.nx (st (match ds.getLast? with | some d => some d | none => o)), F (pre ++ ds))
  | [], pre, _, _, o => by simp [forL]
  | d :: ds, pre, hp, hb, o => by
    unfold forL
    simp only [hp d List.mem_cons_self o]
    have e := hb [] d ds rfl
    simp only [List.append_nil, List.nil_append] at e
    simp only [e]
    rw [for_pre F st ds (pre ++ [d]) (fun x hx => hp x (List.mem_cons_of_mem _ hx)) (fun q x r hq => by
      have := hb (d :: q) x r (by rw [hq]; rfl)
      simpa using this) (some d)]
    cases ds with
    | nil => simp
    | cons e es =>
      simp only [List.getLast?_cons_cons]
      cases h : (e :: es).getLast? with
      | none => simp at h
      | some x => simp
theorem for_invU {p : Pat} {b : TSt} (I : Sl → Store → Prop) : ∀ (ds : List D) (s : Sl) (S : Store), I s S → (∀ d ∈ ds, ∀ s S, I s S → ∃ s1, p.put d s = some s1 ∧ ∃ s2 S2, b s1 S = some (.nx s2, S2) ∧ I s2 S2) → ∃ s' S', forL p b ds s S = some (.nx s', S') ∧ I s' S'
  | [], s, S, h, _ => ⟨s, S, rfl, h⟩
  | d :: ds, s, S, h, k => by
    obtain ⟨s1, h1, s2, S2, h2, h3⟩ := k d List.mem_cons_self s S h
    obtain ⟨s', S', e, h4⟩ := for_invU I ds s2 S2 h3 fun d hd => k d (List.mem_cons_of_mem _ hd)
    refine ⟨s', S', ?_, h4⟩
    unfold forL
    simp only [h1, h2]
    exact e
def tellR (w : Nat → Option D) : Res D → Res D
  | .ok d S => if d.flat then .ok d S else .err
  | .ex e S => if flats e.args then match w e.cls with
    | some d => .ok d S
    | none => .err
    else .err
  | .err => .err
def tellS (w : Nat → Option D) : Res D → RS
  | .ok d S => some (.ret d, S)
  | .ex e S => match w e.cls with
    | some d => some (.ret d, S)
    | none => none
  | .err => none
@[simp] theorem tellR_ok {w : Nat → Option D} {d : D} {S : Store} : tellR w (.ok d S) = if d.flat then .ok d S else .err := (rfl)
@[simp] theorem tellR_ex {w : Nat → Option D} {e : Ex} {S : Store} : tellR w (.ex e S) = if flats e.args then match w e.cls with | some d => .ok d S | none => .err else .err := (rfl)
theorem eTold_tell {n : Nat} {b : (Store → Res D) → TSt} {w : Nat → Option D} (hb : ∀ th S, b th (some (.fn 0) :: List.replicate n none) S = tellS w (th S)) (hw : ∀ e d, w e = some d → d.flat = true) (te : TE) (s : Sl) (S : Store) : eTold true n b te s S = tellR w (te s S) := by
  unfold eTold
  rw [if_pos rfl, hb]
  cases h : te s S with
  | ok d S' =>
    simp only [flatR_ok, tellR_ok]
    by_cases hf : d.flat = true
    · simp [hf, tellS]
    · simp [hf, tellS]
  | ex e S' =>
    simp only [flatR_ex, tellR_ex]
    by_cases hf : flats e.args = true
    · simp only [hf, if_true, tellS]
      cases h2 : w e.cls with
      | none => rfl
      | some d => simp [hw _ _ h2]
    · simp [hf, tellS]
  | err => rfl
theorem chs_len (z : Str) : (chs z).length = z.length := by simp [chs, Str.length]
theorem wrd_chs' (l : List Bool) : chs (wrd l) = l.map fun b => .str (sgn b) := by
  unfold chs wrd
  rw [List.toList_toArray, List.map_map]
  exact List.map_congr_left fun b _ => by rw [sgn_wrd]; rfl
end Q
namespace Q
open PySem L2
def isBit (c : Nat) : Bool := decide (c = 48) || decide (c = 49)
def sgnsB (z : Str) : Bool := decide (0 < z.length) && z.cps.toList.all isBit
def rowB (z : Str) : Bool := sgnsB z && decide (z.length ≤ 500)
def thingOk : D → Bool
  | .non => true
  | .bl _ => true
  | .int _ => true
  | .str z => decide (z.length ≤ 1000000)
  | .tup _ => true
  | .lst _ => true
  | .dct _ => true
  | _ => false
def rowD : D → Bool
  | .str z => rowB z
  | _ => false
theorem str_one (c d : Nat) : ((⟨#[c]⟩ : Str) == ⟨#[d]⟩) = decide (c = d) := by
  by_cases h : c = d
  · subst h; simp
  · rw [decide_eq_false h]
    apply beq_eq_false_iff_ne.mpr
    intro z
    cases z
    exact h rfl
theorem s0 : ("0" : Str) = ⟨#[48]⟩ := by decide +kernel
theorem s1 : ("1" : Str) = ⟨#[49]⟩ := by decide +kernel
theorem s01 : ("01" : Str) = ⟨#[48, 49]⟩ := by decide +kernel
theorem in_two {S : Store} (c : Nat) : oIn (.str ⟨#[c]⟩) (.tup [.str "0", .str "1"]) S = some (.bl (isBit c), S) := by
  simp only [oIn, inD, itemsLT, flatD, List.all_cons, List.all_nil, Bool.and_true, if_true, List.any_cons, List.any_nil, Bool.or_false, eqF, s0, s1, str_one, isBit]
  congr 2
  by_cases h1 : 48 = c
  · subst h1; rfl
  · by_cases h2 : 49 = c
    · subst h2; rfl
    · rw [decide_eq_false h1, decide_eq_false h2, decide_eq_false (Ne.symm h1), decide_eq_false (Ne.symm h2)]
theorem in_01 {S : Store} (c : Nat) : oIn (.str ⟨#[c]⟩) (.str "01") S = some (.bl (isBit c), S) := by
  have h : signOf (.str ⟨#[c]⟩) = some c := rfl
  simp only [oIn, inD, h, s01]
  congr 2
  unfold isBit
  simp
theorem blsOf_map {α : Type} (f : α → Bool) : ∀ l : List α, blsOf (l.map fun x => D.bl (f x)) = some (l.map f)
  | [] => rfl
  | a :: l => by simp [blsOf, blsOf_map f l]
theorem all_id {α : Type} (f : α → Bool) (l : List α) : (l.map f).all id = l.all f := by simp [List.all_map]
theorem lc_chs {i : Nat} {t e : TE} {s : Sl} {S : Store} {z : Str} (f : Nat → D) (h : ∀ c ∈ z.cps.toList, t (s.set i (some (.str ⟨#[c]⟩))) S = .ok (.bl true) S ∧ e (s.set i (some (.str ⟨#[c]⟩))) S = .ok (f c) S) (hz : z.length ≤ 1000000) :
    lcL (.nm i) t e s (z.cps.toList.map fun c => .str ⟨#[c]⟩) [] S = .ok (.lst (z.cps.toList.map f)) S := by
  rw [lc_map (fun d => match signOf d with | some c => f c | none => d)]
  · rw [List.nil_append, List.map_map]
    rfl
  · intro d hd
    obtain ⟨c, hc, rfl⟩ := List.mem_map.mp hd
    exact h c hc
  · rw [PySem.sizeLine_eq]
    simp only [List.length_map, Array.length_toList, List.length_nil]
    unfold Str.length at hz
    omega
section
variable {n : Nat} {S : Store}
theorem oLen_str {z : Str} (h : z.length ≤ 1000000) : oLen [.str z] S = some (.int z.length, S) := by
  have : z.length ≤ sizeLine := by rw [PySem.sizeLine_eq]; omega
  simp [oLen, this]
theorem b_is_signs_ok (c : CallT) (z : Str) (h : z.length ≤ 1000000) : b_is_signs c [some (.str z), none] S = some (.ret (.bl (sgnsB z)), S) := by
  have l := fun (s : Sl) (hs : 1 < s.length) => lc_chs (i := 1) (t := eC (.bl true)) (e := w_is_signs_0 c) (s := s) (S := S) (z := z) (fun c => .bl (isBit c)) (fun c hc => ⟨rfl, by simp [w_is_signs_0, hs, in_two]⟩) h
  unfold sgnsB
  by_cases h0 : 0 < z.length
  · simp [b_is_signs, oIsi, Ty.of, Ty.eqb, oLen_str h, h0, sSeq, l, oAll, blsOf_map, all_id]
  · simp [b_is_signs, oIsi, Ty.of, Ty.eqb, oLen_str h, h0]
theorem c_is_signs (d : D) (h : thingOk d = true) : callN Lib (n + 1) 13 [d] S = .ok (.bl (match d with | .str z => sgnsB z | _ => false)) S := by
  rw [callN_eq (d := f_is_signs) rfl]
  refine run_keep rfl ?_
  cases d <;> first | (cases h; done) | simp [b_is_signs, oIsi, Ty.of, Ty.eqb]
  rename_i z
  have := b_is_signs_ok (S := S) (callN Lib n) z (by simpa [thingOk] using h)
  simpa [b_is_signs, oIsi, Ty.of, Ty.eqb] using this
theorem c_is_row (d : D) (h : thingOk d = true) : callN Lib (n + 2) 14 [d] S = .ok (.bl (rowD d)) S := by
  have e := c_is_signs (n := n) (S := S) d h
  rw [callN_eq (d := f_is_row) rfl]
  generalize callN Lib (n + 1) = c at e
  refine run_keep rfl ?_
  cases d <;> first | (cases h; done) | simp [b_is_row, e, rowD]
  rename_i z
  have hz : z.length ≤ 1000000 := by simpa [thingOk] using h
  unfold rowB
  cases h0 : sgnsB z
  · simp
  · simp [oLen_str hz]; omega
theorem c_check_row (d : D) (h : thingOk d = true) (hr : rowD d = true) : callN Lib (n + 3) 15 [d] S = .ok .non S := by
  have e := c_is_row (n := n) (S := S) d h
  rw [callN_eq (d := f_check_row) rfl]
  generalize callN Lib (n + 2) = c at e
  refine run_keep_nx (s' := [some d]) rfl ?_
  simp [b_check_row, e, hr]
theorem c_check_row_no (d : D) (h : thingOk d = true) (hr : rowD d = false) : callN Lib (n + 3) 15 [d] S = .ex ⟨4, []⟩ S := by 
  have e := c_is_row (n := n) (S := S) d h
  rw [callN_eq (d := f_check_row) rfl]
  generalize callN Lib (n + 2) = c at e
  refine run_ex (s' := [some d]) rfl ?_
  simp [b_check_row, e, hr]
theorem wrd_all (l : List Bool) : (wrd l).cps.toList.all isBit = true := by
  simp [wrd, isBit, bit]
theorem row_wrd {l : List Bool} (h0 : 0 < l.length) (h1 : l.length ≤ 500) : rowB (wrd l) = true := by
  unfold rowB sgnsB
  rw [wrd_all, wrd_len]
  simp [h0, h1]
theorem thing_wrd {l : List Bool} (h1 : l.length ≤ 1000000) : thingOk (.str (wrd l)) = true := by simp [thingOk, wrd_len, h1]
theorem c_check_wrd {l : List Bool} (h0 : 0 < l.length) (h1 : l.length ≤ 500) : callN Lib (n + 3) 15 [.str (wrd l)] S = .ok .non S := c_check_row _ (thing_wrd (by omega)) (row_wrd h0 h1)
theorem oLen_wrd {l : List Bool} (h : l.length ≤ 1000000) : oLen [.str (wrd l)] S = some (.int l.length, S) := by rw [oLen_str (by rw [wrd_len]; exact h), wrd_len]
def cnt (l : List Bool) (i : Nat) : Int := ((l.take i).count true : Nat)
def cnts (l : List Bool) : List Int := (List.range (l.length + 1)).map (cnt l)
theorem cnts_nil : cnts [] = [0] := rfl
theorem cnts_len (l : List Bool) : (cnts l).length = l.length + 1 := by simp [cnts]
theorem cnt_app (l : List Bool) (b : Bool) {i : Nat} (h : i ≤ l.length) : cnt (l ++ [b]) i = cnt l i := by
  unfold cnt
  rw [List.take_append_of_le_length h]
theorem cnts_app (l : List Bool) (b : Bool) : cnts (l ++ [b]) = cnts l ++ [cnt l l.length + if b then 1 else 0] := by
  unfold cnts
  rw [List.length_append, List.length_singleton, List.range_succ, List.map_append]
  congr 1
  · refine List.map_congr_left fun i hi => cnt_app l b ?_
    have := List.mem_range.mp hi
    omega
  · simp only [List.map_cons, List.map_nil]
    congr 1
    unfold cnt
    rw [List.take_of_length_le (by simp), List.take_of_length_le (by simp), List.count_append]
    cases b <;> simp
theorem cnts_last (l : List Bool) : (cnts l)[l.length]? = some (cnt l l.length) := by simp [cnts]
theorem ixN_last (m : Nat) : ixN (m + 1) (-1) = some m := by
  unfold ixN
  have h1 : (-1 : Int) < 0 := by omega
  have e : (-1 + ((m + 1 : Nat) : Int)).toNat = m := by omega
  simp [h1]
  first
    | omega
    | exact ⟨by omega, by omega⟩
theorem atI_last {α : Type} {xs : List α} {x : α} {m : Nat} (hl : xs.length = m + 1) (h : xs[m]? = some x) : atI xs (-1) = some x := by
  unfold atI
  rw [hl, ixN_last]
  exact h
end
end Q
namespace Q
open PySem L2
def oneD : D → Bool
  | .str z => decide (z = "1")
  | _ => false
@[simp] theorem sgn_is1 (b : Bool) : decide (sgn b = ("1" : Str)) = b := by cases b <;> decide +kernel
@[simp] theorem sgn_is0 (b : Bool) : decide (sgn b = ("0" : Str)) = !b := by cases b <;> decide +kernel
theorem ones (l : List Bool) : (l.map fun b => D.str (sgn b)).map oneD = l := by
  rw [List.map_map]
  have : (oneD ∘ fun b => D.str (sgn b)) = id := funext fun b => sgn_is1 b
  rw [this, List.map_id]
section
variable {n k : Nat} {S : Store}
theorem ix_last {j m : Nat} {xs : List D} {d : D} (h : j = S.L.length) (hl : xs.length = m + 1) (hx : xs[m]? = some d) : oIx (.ptr j) (.int (-1)) (S.new xs) = some (d, S.new xs) := by
  simp [oIx, itemsLT, itemsL, new_get_at h, atI_last hl hx]
theorem sseq_wrd {s : Sl} {a : TE} {l : List Bool} {S1 : Store} (h : a s S = .ok (.str (wrd l)) S1) : sSeq a s S = .ok (l.map fun b => .str (sgn b)) S1 := by
  unfold sSeq
  rw [h]
  show Res.ok (chs (wrd l)) S1 = _
  rw [wrd_chs']
theorem for_sums (c : CallT) (X : D) (l : List Bool) (hl : l.length ≤ 10000) : ∃ u, forL (.nm 2) (w_sums_of_0 c) (l.map fun b => .str (sgn b)) [some X, some (.ptr S.L.length), none] (S.new [.int 0]) = some (.nx [some X, some (.ptr S.L.length), u], S.new ((cnts l).map .int)) := by
  have e := for_pre (p := .nm 2) (b := w_sums_of_0 c) (fun q => S.new ((cnts (q.map oneD)).map .int)) (fun o => [some X, some (.ptr S.L.length), o]) (l.map fun b => .str (sgn b)) [] (fun d _ o => by simp) (fun q d r hq => by
    obtain ⟨b, hb⟩ : ∃ b, d = .str (sgn b) := by
      have : d ∈ l.map fun b => D.str (sgn b) := by rw [hq]; simp
      obtain ⟨b, _, rfl⟩ := List.mem_map.mp this
      exact ⟨b, rfl⟩
    subst hb
    have hql : q.length ≤ 10000 := by
      have := congrArg List.length hq
      simp at this
      omega
    simp only [List.nil_append, List.map_append, List.map_cons, List.map_nil]
    have e1 : oneD (.str (sgn b)) = b := sgn_is1 b
    rw [e1, cnts_app, List.map_append, List.map_singleton]
    have hx := ix_last (S := S) (xs := (cnts (q.map oneD)).map .int) (m := q.length) (d := .int (cnt (q.map oneD) q.length)) rfl (by simp [cnts_len]) (by
      have := cnts_last (q.map oneD)
      rw [List.length_map] at this
      rw [List.getElem?_map, this]
      rfl)
    have ap := fun i => append_at (S := S) (j := S.L.length) (xs := (cnts (q.map oneD)).map .int) (d := .int i) rfl (by simp [cnts_len]; omega) rfl
    have il := isLst_at (S := S) (j := S.L.length) (xs := (cnts (q.map oneD)).map .int) rfl
    generalize (cnts (q.map oneD)).map D.int = xs at hx ap il
    cases b <;> simp [w_sums_of_0, il, hx, ap, List.length_map]) none
  simp only [List.nil_append, List.map_nil, ones, cnts_nil, List.map_singleton] at e
  exact ⟨_, e⟩
theorem c_sums_of (l : List Bool) (hl : l.length ≤ 10000) : callN Lib (n + 1) 16 [.str (wrd l)] S = .ok (.lst ((cnts l).map .int)) S := by
  rw [callN_eq (d := f_sums_of) rfl]
  generalize callN Lib n = c
  obtain ⟨u, e⟩ := for_sums (S := S) c (.str (wrd l)) l hl
  have e2 : runFn f_sums_of c [.str (wrd l)] S = .ok (.lst ((cnts l).map .int)) ((S.dead).cut S.L.length) := by
    refine run_cut rfl ?_ (flats_ints _)
    have sq := fun S => sseq_wrd (S := S) (a := eV 0) (s := [some (.str (wrd l)), some (.ptr S.L.length), none]) (l := l) (S1 := S) rfl
    have fz := frz_at (S := S) (i := 1) (s := [some (.str (wrd l)), some (.ptr S.L.length), u]) (xs := (cnts l).map .int) rfl rfl
    have sq2 : sSeq (eV 0) [some (.str (wrd l)), some (.ptr S.L.length), none] (S.new [.int 0]) = .ok (l.map fun b => .str (sgn b)) (S.new [.int 0]) := sseq_wrd rfl
    simp [b_sums_of, sq2, e, fz]
  rw [e2, dead_cut rfl]
theorem oTup_lst (ds : List D) : oTupleOf [.lst ds] S = some (.tup ds, S) := rfl
def spotL (l : List Bool) : List Nat := (List.range l.length).filter fun i => l.getD i false
def placedL (l : List Bool) : List D := (List.range l.length).map fun (i : Nat) => .tup [.int (i : Nat), .str (sgn (l.getD i false))]
theorem enum_row (l : List Bool) : iEnum [.str (wrd l)] = some (placedL l) := by
  have e : iEnum [.str (wrd l)] = some (List.zipWith (fun d e => .tup [d, e]) ((List.range (wrd l).cps.size).map fun (i : Nat) => .int (i : Nat)) (chs (wrd l))) := rfl
  have e2 : (wrd l).cps.size = l.length := by simp [wrd]
  rw [e, wrd_chs', e2]
  congr 1
  unfold placedL
  apply List.ext_getElem
  · simp
  · intro i h1 h2
    simp at h2
    simp [h2]
theorem lc_filtR {p : Pat} {t e : TE} {s : Sl} {S : Store} (P : D → Bool) (f : D → D) : ∀ (ds acc : List D), (∀ d ∈ ds, ∃ s1, p.put d s = some s1 ∧ t s1 S = .ok (.bl (P d)) S ∧ (P d = true → e s1 S = .ok (f d) S)) → acc.length + ds.length ≤ sizeLine → lcL p t e s ds acc S = .ok (.lst (acc ++ (ds.filter P).map f)) S
  | [], acc, _, _ => by simp [lcL]
  | d :: ds, acc, h, hl => by
    obtain ⟨s1, h0, h1, h2⟩ := h d List.mem_cons_self
    simp only [List.length_cons] at hl
    have h3 : lineOk acc.length = true := by unfold lineOk; exact decide_eq_true (by omega)
    unfold lcL
    cases c : P d with
    | true =>
      simp only [h0, h1, h2 c, h3, c, if_true]
      rw [lc_filtR P f ds (acc ++ [f d]) (fun d' hd => h d' (List.mem_cons_of_mem _ hd)) (by simp; omega)]
      simp [c]
    | false =>
      simp only [h0, h1, c]
      have := lc_filtR P f ds acc (fun d' hd => h d' (List.mem_cons_of_mem _ hd)) (by omega)
      simp [c, this]
def sndOne : D → Bool
  | .tup [_, .str z] => decide (z = "1")
  | _ => false
def fstOf : D → D
  | .tup [x, _] => x
  | d => d
theorem lc_spotL {i j : Nat} (hij : i ≠ j) {t e : TE} {s : Sl} {l : List Bool} (hi : i < s.length) (hj : j < s.length) (hl : l.length ≤ 100000)
    (ht : ∀ (a : Nat) b, t ((s.set i (some (.int a))).set j (some (.str (sgn b)))) S = .ok (.bl b) S) (he : ∀ (a : Nat) b, e ((s.set i (some (.int a))).set j (some (.str (sgn b)))) S = .ok (.int a) S) :
    lcL (.tp [.nm i, .nm j]) t e s (placedL l) [] S = .ok (.lst ((spotL l).map fun (a : Nat) => .int a)) S := by
  rw [lc_filtR sndOne fstOf]
  · unfold spotL placedL
    rw [List.nil_append, List.filter_map, List.map_map]
    have e : (sndOne ∘ fun (i : Nat) => D.tup [.int (i : Nat), .str (sgn (l.getD i false))]) = fun i : Nat => l.getD i false := funext fun i => sgn_is1 _
    rw [e]
    rfl
  · intro d hd
    obtain ⟨a, _, rfl⟩ := List.mem_map.mp hd
    refine ⟨(s.set i (some (.int (a : Nat)))).set j (some (.str (sgn (l.getD a false)))), by simp, ?_, fun _ => ?_⟩
    · rw [ht]
      show Res.ok (D.bl (l.getD a false)) S = Res.ok (D.bl (decide (sgn (l.getD a false) = ("1" : Str)))) S
      rw [sgn_is1]
    · rw [he]
      rfl
  · rw [PySem.sizeLine_eq]
    simp [placedL]
    omega
theorem lc_sgns {i : Nat} {t e : TE} {s : Sl} {S : Store} {l : List Bool} (f : Bool → D) (h : ∀ b, t (s.set i (some (.str (sgn b)))) S = .ok (.bl true) S ∧ e (s.set i (some (.str (sgn b)))) S = .ok (f b) S) (hl : l.length ≤ 1000000) :
    lcL (.nm i) t e s (l.map fun b => .str (sgn b)) [] S = .ok (.lst (l.map f)) S := by
  rw [lc_map (fun d => f (oneD d))]
  · rw [List.nil_append, List.map_map]
    refine congrArg (fun z => Res.ok (D.lst z) S) (List.map_congr_left fun b _ => ?_)
    show f (oneD (.str (sgn b))) = f b
    rw [show oneD (.str (sgn b)) = b from sgn_is1 b]
  · intro d hd
    obtain ⟨b, _, rfl⟩ := List.mem_map.mp hd
    rw [show oneD (.str (sgn b)) = b from sgn_is1 b]
    exact h b
  · rw [PySem.sizeLine_eq]
    simp
    omega
theorem c_complement {l : List Bool} (h0 : 0 < l.length) (h1 : l.length ≤ 500) : callN Lib (n + 4) 107 [.str (wrd l)] S = .ok (.str (wrd (l.map (!·)))) S := by
  have e1 := c_check_wrd (n := n) (S := S) h0 h1
  rw [callN_eq (d := f_complement) rfl]
  generalize callN Lib (n + 3) = c at e1
  refine run_keep rfl ?_
  have sq : sSeq (eV 0) [some (.str (wrd l)), none] S = .ok (l.map fun b => .str (sgn b)) S := sseq_wrd rfl
  have e2 := lc_sgns (S := S) (i := 1) (t := eC (.bl true)) (e := w_complement_0 c) (s := [some (.str (wrd l)), none]) (l := l) (fun b => .str (sgn (!b))) (fun b => ⟨rfl, by cases b <;> simp [w_complement_0, sgn]⟩) (by omega)
  have jn := oJoin_sgn (S := S) (l := l.map (!·)) (by simp; omega)
  rw [List.map_map] at jn
  have e3 : ((fun b => D.str (sgn b)) ∘ fun x => !x) = fun b => D.str (sgn (!b)) := rfl
  rw [e3] at jn
  simp [b_complement, e1, sq, e2, isStrD, jn]
theorem wrd_rev (l : List Bool) : (⟨(wrd l).cps.toList.reverse.toArray⟩ : Str) = wrd l.reverse := by
  unfold wrd
  simp
theorem oRev_wrd {l : List Bool} (h : l.length ≤ 1000000) : oRev (.str (wrd l)) S = some (.str (wrd l.reverse), S) := by
  have hz : (wrd l).length ≤ sizeLine := by rw [wrd_len, PySem.sizeLine_eq]; omega
  show (if (wrd l).length ≤ sizeLine then some (D.str ⟨(wrd l).cps.toList.reverse.toArray⟩, S) else none) = _
  rw [if_pos hz, wrd_rev]
theorem c_mirrored {l : List Bool} (h0 : 0 < l.length) (h1 : l.length ≤ 500) : callN Lib (n + 4) 108 [.str (wrd l)] S = .ok (.str (wrd l.reverse)) S := by
  have e1 := c_check_wrd (n := n) (S := S) h0 h1
  rw [callN_eq (d := f_mirrored) rfl]
  generalize callN Lib (n + 3) = c at e1
  refine run_keep rfl ?_
  simp [b_mirrored, e1, oRev_wrd (S := S) (l := l) (by omega)]
theorem wrd_app (l m : List Bool) : wrd l ++ wrd m = wrd (l ++ m) := by
  show (⟨(wrd l).cps ++ (wrd m).cps⟩ : Str) = _
  unfold wrd
  simp
theorem oAdd_wrd {l m : List Bool} (h : l.length + m.length ≤ 1000000) : oAdd (.str (wrd l)) (.str (wrd m)) S = some (.str (wrd (l ++ m)), S) := by
  have hz : (wrd l).length + (wrd m).length ≤ sizeLine := by rw [wrd_len, wrd_len, PySem.sizeLine_eq]; omega
  show (if (wrd l).length + (wrd m).length ≤ sizeLine then some (D.str (wrd l ++ wrd m), S) else none) = _
  rw [if_pos hz, wrd_app]
theorem cutD_nat {α : Type} (xs : List α) (a b : Nat) : cutD xs (some (a : Int)) (some (b : Int)) = (xs.drop (min a xs.length)).take (min b xs.length - min a xs.length) := by
  unfold cutD
  rw [HT.sIx_nat, HT.sIx_nat]
theorem wrd_drop {l : List Bool} (i : Nat) (h : i ≤ l.length) (h2 : l.length ≤ 1000000) : oCut (.str (wrd l)) (some (i : Int)) none S = some (.str (wrd (l.drop i)), S) := by
  have hz : (wrd l).length ≤ sizeLine := by rw [wrd_len, PySem.sizeLine_eq]; omega
  have hl : (wrd l).cps.toList.length = l.length := by simp [wrd]
  unfold oCut cutD
  simp only [hz, if_true, HT.sIx_nat, HT.sIx_none, hl]
  rw [Nat.min_eq_left h, List.take_of_length_le (by simp [wrd])]
  unfold wrd
  simp [List.map_drop]
theorem wrd_take {l : List Bool} (i : Nat) (h : i ≤ l.length) (h2 : l.length ≤ 1000000) : oCut (.str (wrd l)) none (some (i : Int)) S = some (.str (wrd (l.take i)), S) := by
  have hz : (wrd l).length ≤ sizeLine := by rw [wrd_len, PySem.sizeLine_eq]; omega
  have hl : (wrd l).cps.toList.length = l.length := by simp [wrd]
  unfold oCut cutD
  simp only [hz, if_true, HT.sIx_nat, HT.sIx_none, hl]
  rw [Nat.min_eq_left h]
  unfold wrd
  simp [List.map_take]
def rot (l : List Bool) (i : Nat) : List Bool := (List.range l.length).map fun j => l.getD ((i + j) % l.length) false
theorem rot_len (l : List Bool) (i : Nat) : (rot l i).length = l.length := by simp [rot]
theorem rot_eq (l : List Bool) {i : Nat} (h : i < l.length) : l.drop i ++ l.take i = rot l i := by
  apply List.ext_getElem
  · simp [rot]; omega
  · intro j h1 h2
    simp [rot] at h2
    simp only [rot, List.getElem_map, List.getElem_range]
    by_cases hj : j < l.length - i
    · rw [List.getElem_append_left (by simpa using hj)]
      have e : (i + j) % l.length = i + j := Nat.mod_eq_of_lt (by omega)
      simp [e, show i + j < l.length by omega]
    · rw [List.getElem_append_right (by simpa using Nat.le_of_not_lt hj)]
      have e : (i + j) % l.length = i + j - l.length := by
        rw [Nat.mod_eq_sub_mod (by omega), Nat.mod_eq_of_lt (by omega)]
      simp only [e, List.getElem_take, List.length_drop]
      have e2 : j - (l.length - i) = i + j - l.length := by omega
      simp [e2, show i + j - l.length < l.length by omega]
theorem rot_rot (l : List Bool) (i j : Nat) (h : 0 < l.length) : rot (rot l i) j = rot l ((i + j) % l.length) := by
  apply List.ext_getElem
  · simp [rot]
  · intro a h1 h2
    simp [rot] at h2
    have hm : (j + a) % l.length < l.length := Nat.mod_lt _ h
    simp only [rot, List.length_map, List.length_range, List.getElem_map, List.getElem_range]
    have e : ((List.range l.length).map fun j => l.getD ((i + j) % l.length) false).getD ((j + a) % l.length) false = l.getD ((i + (j + a) % l.length) % l.length) false := by
      simp [hm]
    rw [e]
    congr 1
    rw [Nat.add_mod_mod, Nat.mod_add_mod, Nat.add_assoc]
theorem oIx_str {z : Str} {i c : Nat} (hz : z.length ≤ 1000000) (h : z.cps.toList[i]? = some c) : oIx (.str z) (.int i) S = some (.str ⟨#[c]⟩, S) := by
  have hl : z.length ≤ sizeLine := by rw [PySem.sizeLine_eq]; omega
  show (if z.length ≤ sizeLine then (match atI z.cps.toList (i : Int) with | some c => some (D.str ⟨#[c]⟩, S) | none => none) else none) = _
  rw [if_pos hl, atI_nat h]
theorem oIx_wrd {l : List Bool} {i : Nat} {b : Bool} (hl : l.length ≤ 1000000) (h : l[i]? = some b) : oIx (.str (wrd l)) (.int i) S = some (.str (sgn b), S) := by
  rw [oIx_str (i := i) (c := bit b) (by rw [wrd_len]; exact hl) (by simp [wrd, h]), sgn_wrd]
theorem c_complement_no {d : D} (h : thingOk d = true) (hr : rowD d = false) : callN Lib (n + 4) 107 [d] S = .ex ⟨4, []⟩ S := by
  have e1 := c_check_row_no (n := n) (S := S) d h hr
  rw [callN_eq (d := f_complement) rfl]
  generalize callN Lib (n + 3) = c at e1
  refine run_ex (s' := [some d, none]) rfl ?_
  simp [b_complement, e1]
theorem c_mirrored_no {d : D} (h : thingOk d = true) (hr : rowD d = false) : callN Lib (n + 4) 108 [d] S = .ex ⟨4, []⟩ S := by
  have e1 := c_check_row_no (n := n) (S := S) d h hr
  rw [callN_eq (d := f_mirrored) rfl]
  generalize callN Lib (n + 3) = c at e1
  refine run_ex (s' := [some d]) rfl ?_
  simp [b_mirrored, e1]
end
end Q
namespace Q
open PySem L2
def gn (t : Nat → Int) (i a : Nat) : Int := t (i + a) - t i
def Bal (t : Nat → Int) (n : Nat) : Prop := ∀ i j a, i + a ≤ n → j + a ≤ n → gn t i a ≤ gn t j a + 1
section
variable {t : Nat → Int} {n : Nat}
theorem gn_split (i a b : Nat) (h : b ≤ a) : gn t i a = gn t i b + gn t (i + b) (a - b) := by
  unfold gn
  have e : i + b + (a - b) = i + a := by omega
  rw [e]
  omega
theorem bal_lt (B : Bal t n) : ∀ (m i a j b : Nat), a + b ≤ m → 1 ≤ a → 1 ≤ b → i + a ≤ n → j + b ≤ n → (b : Int) * gn t i a - a * gn t j b < a + b
  | 0, i, a, j, b, hm, ha, hb, _, _ => by omega
  | m + 1, i, a, j, b, hm, ha, hb, hi, hj => by
    by_cases h1 : a = b
    · subst h1
      have h2 := B i j a hi hj
      have h3 : (a : Int) * gn t i a ≤ a * (gn t j a + 1) := Int.mul_le_mul_of_nonneg_left h2 (by omega)
      rw [Int.mul_add] at h3
      omega
    · by_cases h2 : b < a
      · have ih := bal_lt B m (i + b) (a - b) j b (by omega) (by omega) hb (by omega) hj
        have e := gn_split (t := t) i a b (by omega)
        have h3 := B i j b (by omega) hj
        have h4 : (b : Int) * gn t i b ≤ b * (gn t j b + 1) := Int.mul_le_mul_of_nonneg_left h3 (by omega)
        rw [e]
        have ec : ((a - b : Nat) : Int) = a - b := by omega
        rw [ec, Int.sub_mul] at ih
        rw [Int.mul_add] at h4 ⊢
        omega
      · have ih := bal_lt B m i a (j + a) (b - a) (by omega) ha (by omega) hi (by omega)
        have e := gn_split (t := t) j b a (by omega)
        have h3 := B i j a hi (by omega)
        have h4 : (a : Int) * gn t i a ≤ a * (gn t j a + 1) := Int.mul_le_mul_of_nonneg_left h3 (by omega)
        rw [e]
        have ec : ((b - a : Nat) : Int) = b - a := by omega
        rw [ec, Int.sub_mul] at ih
        rw [Int.mul_add] at h4 ⊢
        omega
theorem bal_cut (B : Bal t n) {i a j b : Nat} (ha : 1 ≤ a) (hb : 1 ≤ b) (hi : i + a ≤ n) (hj : j + b ≤ n) : (gn t i a - 1) * b < (gn t j b + 1) * a := by
  have h := bal_lt B (a + b) i a j b (Nat.le_refl _) ha hb hi hj
  rw [Int.sub_mul, Int.add_mul, Int.mul_comm (gn t i a), Int.mul_comm (gn t j b)]
  omega
structure LowOf (t : Nat → Int) (n : Nat) (x y : Int) : Prop where
  y0 : 0 < y
  ge : ∀ i a, 1 ≤ a → i + a ≤ n → (gn t i a - 1) * y ≤ x * a
  at_ : (x = -1 ∧ y = 1) ∨ ∃ i a : Nat, 1 ≤ a ∧ i + a ≤ n ∧ x = gn t i a - 1 ∧ y = a
structure HighOf (t : Nat → Int) (n : Nat) (x y : Int) : Prop where
  y0 : 0 < y
  le : ∀ i a, 1 ≤ a → i + a ≤ n → x * a ≤ (gn t i a + 1) * y
  at_ : (x = 2 ∧ y = 1) ∨ ∃ i a : Nat, 1 ≤ a ∧ i + a ≤ n ∧ x = gn t i a + 1 ∧ y = a
def Step01 (t : Nat → Int) (n : Nat) : Prop := t 0 = 0 ∧ ∀ i, i < n → t i ≤ t (i + 1) ∧ t (i + 1) ≤ t i + 1
theorem gn_bd (s : Step01 t n) (i : Nat) : ∀ a, i + a ≤ n → 0 ≤ gn t i a ∧ gn t i a ≤ a
  | 0, _ => by simp [gn]
  | a + 1, h => by
    obtain ⟨h1, h2⟩ := gn_bd s i a (by omega)
    obtain ⟨h3, h4⟩ := s.2 (i + a) (by omega)
    unfold gn at *
    rw [show i + (a + 1) = i + a + 1 from rfl]
    omega
variable {x y u v : Int}
theorem ends_lt (B : Bal t n) (s : Step01 t n) (L : LowOf t n x y) (H : HighOf t n u v) : x * v < u * y := by
  rcases L.at_ with ⟨rfl, rfl⟩ | ⟨i, a, ha, hi, rfl, rfl⟩
  · rcases H.at_ with ⟨rfl, rfl⟩ | ⟨j, b, hb, hj, rfl, rfl⟩
    · omega
    · have := (gn_bd s j b hj).1
      omega
  · rcases H.at_ with ⟨rfl, rfl⟩ | ⟨j, b, hb, hj, rfl, rfl⟩
    · have := (gn_bd s i a hi).2
      omega
    · exact bal_cut B ha hb hi hj
structure Mid (x y u v p q : Int) : Prop where
  q1 : 1 ≤ q
  p0 : 0 ≤ p
  p1 : p ≤ q
  lo : x * q < p * y
  hi : p * v < u * q
theorem mid_ex (B : Bal t n) (s : Step01 t n) (hn : 1 ≤ n) (L : LowOf t n x y) (H : HighOf t n u v) : ∃ p q, Mid x y u v p q ∧ q ≤ 2 * n := by
  have hlt := ends_lt B s L H
  have hy := L.y0
  have hv := H.y0
  have u0 : 0 < u := by
    rcases H.at_ with ⟨rfl, _⟩ | ⟨j, b, hb, hj, rfl, _⟩
    · omega
    · have := (gn_bd s j b hj).1; omega
  have xy : x < y := by
    rcases L.at_ with ⟨rfl, rfl⟩ | ⟨i, a, ha, hi, rfl, rfl⟩
    · omega
    · have := (gn_bd s i a hi).2; omega
  have yn : y ≤ n := by
    rcases L.at_ with ⟨rfl, rfl⟩ | ⟨i, a, ha, hi, rfl, rfl⟩ <;> omega
  have vn : v ≤ n := by
    rcases H.at_ with ⟨rfl, rfl⟩ | ⟨i, a, ha, hi, rfl, rfl⟩ <;> omega
  by_cases h1 : x < 0
  · exact ⟨0, 1, ⟨by omega, by omega, by omega, by omega, by omega⟩, by omega⟩
  · by_cases h2 : v < u
    · exact ⟨1, 1, ⟨by omega, by omega, by omega, by omega, by omega⟩, by omega⟩
    · refine ⟨x + u, y + v, ⟨by omega, by omega, by omega, ?_, ?_⟩, by omega⟩
      · rw [Int.mul_add, Int.add_mul]; omega
      · rw [Int.mul_add, Int.add_mul]; omega
structure StartOf (t : Nat → Int) (n : Nat) (p q A : Int) : Prop where
  ge : ∀ i : Nat, i ≤ n → t i * q - i * p ≤ A
  at_ : ∃ i : Nat, i ≤ n ∧ A = t i * q - i * p
theorem start_lt (s : Step01 t n) (L : LowOf t n x y) (H : HighOf t n u v) {p q A : Int} (m : Mid x y u v p q) (g : StartOf t n p q A) : ∀ i : Nat, i ≤ n → A + i * p < (t i + 1) * q := by
  intro i hi
  obtain ⟨j, hj, rfl⟩ := g.at_
  have hy := L.y0
  have hv := H.y0
  have hq := m.q1
  -- q (t j - t i - 1) < p (j - i)
  have key : (t j - t i - 1) * q < p * ((j : Int) - i) := by
    by_cases h1 : j = i
    · subst h1
      have e1 : t j - t j - 1 = -1 := by omega
      have e2 : ((j : Int) - j) = 0 := by omega
      rw [e1, e2]
      omega
    · by_cases h2 : i < j
      · have h3 := L.ge i (j - i) (by omega) (by omega)
        have e : gn t i (j - i) = t j - t i := by unfold gn; rw [show i + (j - i) = j by omega]
        have ec : ((j - i : Nat) : Int) = j - i := by omega
        rw [e, ec] at h3
        -- (d) y <= x D, x q < p y: d q y <= x D q < p y D
        have d0 : (0 : Int) < j - i := by omega
        have h4 : (t j - t i - 1) * y * q ≤ x * ((j : Int) - i) * q := Int.mul_le_mul_of_nonneg_right h3 (by omega)
        have h5 : x * q * ((j : Int) - i) < p * y * ((j : Int) - i) := Int.mul_lt_mul_of_pos_right m.lo d0
        have h6 : (t j - t i - 1) * q * y < p * ((j : Int) - i) * y := by
          have e1 : (t j - t i - 1) * q * y = (t j - t i - 1) * y * q := by rw [Int.mul_assoc, Int.mul_comm q y, ← Int.mul_assoc]
          have e2 : x * ((j : Int) - i) * q = x * q * ((j : Int) - i) := by rw [Int.mul_assoc, Int.mul_comm ((j : Int) - i) q, ← Int.mul_assoc]
          have e3 : p * ((j : Int) - i) * y = p * y * ((j : Int) - i) := by rw [Int.mul_assoc, Int.mul_comm ((j : Int) - i) y, ← Int.mul_assoc]
          rw [e1, e3]
          omega
        exact Int.lt_of_mul_lt_mul_right h6 (by omega)
      · have h3 := H.le j (i - j) (by omega) (by omega)
        have e : gn t j (i - j) = t i - t j := by unfold gn; rw [show j + (i - j) = i by omega]
        have ec : ((i - j : Nat) : Int) = i - j := by omega
        rw [e, ec] at h3
        have d0 : (0 : Int) < i - j := by omega
        have h4 : u * ((i : Int) - j) * q ≤ (t i - t j + 1) * v * q := Int.mul_le_mul_of_nonneg_right h3 (by omega)
        have h5 : p * v * ((i : Int) - j) < u * q * ((i : Int) - j) := Int.mul_lt_mul_of_pos_right m.hi d0
        have h6 : p * ((i : Int) - j) * v < (t i - t j + 1) * q * v := by
          have e1 : (t i - t j + 1) * q * v = (t i - t j + 1) * v * q := by rw [Int.mul_assoc, Int.mul_comm q v, ← Int.mul_assoc]
          have e2 : u * ((i : Int) - j) * q = u * q * ((i : Int) - j) := by rw [Int.mul_assoc, Int.mul_comm ((i : Int) - j) q, ← Int.mul_assoc]
          have e3 : p * ((i : Int) - j) * v = p * v * ((i : Int) - j) := by rw [Int.mul_assoc, Int.mul_comm ((i : Int) - j) v, ← Int.mul_assoc]
          rw [e1, e3]
          omega
        have h7 := Int.lt_of_mul_lt_mul_right h6 (by omega)
        have e4 : (t j - t i - 1) * q = -((t i - t j + 1) * q) := by rw [← Int.neg_mul]; congr 1; omega
        have e5 : p * ((j : Int) - i) = -(p * ((i : Int) - j)) := by rw [← Int.mul_neg]; congr 1; omega
        rw [e4, e5]
        omega
  have e1 : (t j - t i - 1) * q = t j * q - t i * q - q := by rw [Int.sub_mul, Int.sub_mul, Int.one_mul]
  have e2 : p * ((j : Int) - i) = j * p - i * p := by rw [Int.mul_comm, Int.sub_mul]
  rw [e1, e2] at key
  rw [Int.add_mul, Int.one_mul]
  omega
theorem line_gives (s : Step01 t n) (L : LowOf t n x y) (H : HighOf t n u v) {p q A : Int} (m : Mid x y u v p q) (g : StartOf t n p q A) : 0 ≤ A ∧ A < q ∧ ∀ i : Nat, i ≤ n → tf p q A i = t i := by
  have h0 := g.ge 0 (by omega)
  have h1 := start_lt s L H m g 0 (by omega)
  have hq := m.q1
  rw [s.1] at h0 h1
  refine ⟨by simpa using h0, by simpa using h1, fun i hi => ?_⟩
  have h2 := g.ge i hi
  have h3 := start_lt s L H m g i hi
  unfold tf
  rw [Int.add_mul, Int.one_mul] at h3
  refine Int.le_antisymm ?_ ?_
  · have : (i * p + A) / q < t i + 1 := by
      rw [Int.ediv_lt_iff_lt_mul (by omega), Int.add_mul, Int.one_mul]
      omega
    omega
  · rw [Int.le_ediv_iff_mul_le (by omega)]
    omega
end
theorem tf_bal {p q k : Int} (f : IsForm p q k) (n : Nat) : Bal (fun i => tf p q k i) n := by
  intro i j a _ _
  unfold gn tf
  dsimp only
  have hq : 0 < q := by have := f.q1; omega
  have b1 := Int.mul_ediv_add_emod ((i : Nat) * p + k) q
  have b2 := Int.mul_ediv_add_emod (((i + a : Nat) : Int) * p + k) q
  have b3 := Int.mul_ediv_add_emod ((j : Nat) * p + k) q
  have b4 := Int.mul_ediv_add_emod (((j + a : Nat) : Int) * p + k) q
  have c1 := Int.emod_nonneg ((i : Nat) * p + k) (show q ≠ 0 by omega)
  have c2 := Int.emod_nonneg (((i + a : Nat) : Int) * p + k) (show q ≠ 0 by omega)
  have c3 := Int.emod_nonneg ((j : Nat) * p + k) (show q ≠ 0 by omega)
  have c4 := Int.emod_nonneg (((j + a : Nat) : Int) * p + k) (show q ≠ 0 by omega)
  have d1 := Int.emod_lt_of_pos ((i : Nat) * p + k) hq
  have d2 := Int.emod_lt_of_pos (((i + a : Nat) : Int) * p + k) hq
  have d3 := Int.emod_lt_of_pos ((j : Nat) * p + k) hq
  have d4 := Int.emod_lt_of_pos (((j + a : Nat) : Int) * p + k) hq
  have e1 : ((i + a : Nat) : Int) * p = (i : Nat) * p + (a : Nat) * p := by rw [Int.natCast_add, Int.add_mul]
  have e2 : ((j + a : Nat) : Int) * p = (j : Nat) * p + (a : Nat) * p := by rw [Int.natCast_add, Int.add_mul]
  rw [e1] at b2 c2 d2 ⊢
  rw [e2] at b4 c4 d4 ⊢
  generalize ((i : Nat) * p + k) / q = A1 at *
  generalize ((i : Nat) * p + (a : Nat) * p + k) / q = A2 at *
  generalize ((j : Nat) * p + k) / q = A3 at *
  generalize ((j : Nat) * p + (a : Nat) * p + k) / q = A4 at *
  -- q (A2 - A1 - A4 + A3) < 2 q
  have h : q * (A2 - A1 - (A4 - A3)) < q * 2 := by
    rw [Int.mul_sub, Int.mul_sub, Int.mul_sub]
    omega
  have := Int.lt_of_mul_lt_mul_left h (by omega)
  omega
end Q
set_option maxHeartbeats 1000000
namespace Q
open PySem L2
def idxs (P : Int → Bool) (ns : List Int) : List Nat := (List.range ns.length).filter fun i => P (ns.getD i 0)
def fstI (P : Int → Bool) (ns : List Int) : Nat := (idxs P ns).headD 0
structure IsFst (P : Int → Bool) (ns : List Int) (i : Nat) : Prop where
  lt : i < ns.length
  at_ : P (ns.getD i 0) = true
  fst : ∀ k, k < i → P (ns.getD k 0) = false
theorem range_filter_head (P : Nat → Bool) : ∀ (m i : Nat) (r : List Nat), (List.range m).filter P = i :: r → i < m ∧ P i = true ∧ ∀ k, k < i → P k = false
  | 0, i, r, h => by simp at h
  | m + 1, i, r, h => by
    rw [List.range_succ, List.filter_append] at h
    cases e : (List.range m).filter P with
    | cons a as =>
      rw [e] at h
      simp only [List.cons_append, List.cons.injEq] at h
      obtain ⟨h1, h2, h3⟩ := range_filter_head P m a as e
      obtain ⟨rfl, _⟩ := h
      exact ⟨by omega, h2, h3⟩
    | nil =>
      rw [e] at h
      have hno : ∀ k, k < m → P k = false := fun k hk => by
        have := List.filter_eq_nil_iff.mp e k (List.mem_range.mpr hk)
        simpa using this
      cases hp : P m with
      | false => simp [hp] at h
      | true =>
        simp [hp] at h
        obtain ⟨rfl, _⟩ := h
        exact ⟨by omega, hp, hno⟩
theorem idxs_cons {P : Int → Bool} {ns : List Int} (h : ∃ x ∈ ns, P x = true) : ∃ r, idxs P ns = fstI P ns :: r ∧ IsFst P ns (fstI P ns) := by
  obtain ⟨x, hx, hp⟩ := h
  obtain ⟨k, hk, rfl⟩ := List.getElem_of_mem hx
  have hm : k ∈ idxs P ns := by
    unfold idxs
    rw [List.mem_filter]
    exact ⟨List.mem_range.mpr hk, by simpa [hk] using hp⟩
  cases e : idxs P ns with
  | nil => rw [e] at hm; cases hm
  | cons i r =>
    have : fstI P ns = i := by unfold fstI; rw [e]; rfl
    rw [this]
    obtain ⟨h1, h2, h3⟩ := range_filter_head _ _ _ _ e
    exact ⟨r, rfl, h1, h2, h3⟩
theorem isFst_uniq {P : Int → Bool} {ns : List Int} {i j : Nat} (a : IsFst P ns i) (b : IsFst P ns j) : i = j := by
  rcases Nat.lt_trichotomy i j with h | h | h
  · have := b.fst i h; rw [a.at_] at this; cases this
  · exact h
  · have := a.fst j h; rw [b.at_] at this; cases this
def nums (ts : List Int) (len : Nat) : List Int := (List.range (ts.length - len)).map fun i => ts.getD (i + len) 0 - ts.getD i 0
def pairOf (ts : List Int) (len : Nat) : Option (Nat × Nat) :=
  if maxI (nums ts len) - minI (nums ts len) < 2 then none
  else some (fstI (fun x => decide (2 ≤ x - minI (nums ts len))) (nums ts len), fstI (fun y => decide (2 ≤ (nums ts len).getD (fstI (fun x => decide (2 ≤ x - minI (nums ts len))) (nums ts len)) 0 - y)) (nums ts len))
def pairD : Option (Nat × Nat) → D
  | none => .non
  | some (i, j) => .tup [.int i, .int j]
theorem nums_len (ts : List Int) (len : Nat) : (nums ts len).length = ts.length - len := by simp [nums]
theorem pairOf_ex {ts : List Int} {len : Nat} (hl : len < ts.length) (h : ¬ maxI (nums ts len) - minI (nums ts len) < 2) :
    (∃ r, idxs (fun x => decide (2 ≤ x - minI (nums ts len))) (nums ts len) = fstI (fun x => decide (2 ≤ x - minI (nums ts len))) (nums ts len) :: r ∧ IsFst (fun x => decide (2 ≤ x - minI (nums ts len))) (nums ts len) (fstI (fun x => decide (2 ≤ x - minI (nums ts len))) (nums ts len))) ∧
    ∀ i, IsFst (fun x => decide (2 ≤ x - minI (nums ts len))) (nums ts len) i → ∃ r, idxs (fun y => decide (2 ≤ (nums ts len).getD i 0 - y)) (nums ts len) = fstI (fun y => decide (2 ≤ (nums ts len).getD i 0 - y)) (nums ts len) :: r ∧ IsFst (fun y => decide (2 ≤ (nums ts len).getD i 0 - y)) (nums ts len) (fstI (fun y => decide (2 ≤ (nums ts len).getD i 0 - y)) (nums ts len)) := by
  have hne : 0 < (nums ts len).length := by rw [nums_len]; omega
  obtain ⟨a1, a2⟩ := maxI_mem hne
  obtain ⟨b1, b2⟩ := minI_mem hne
  refine ⟨idxs_cons ⟨_, a1, decide_eq_true (by omega)⟩, fun i hi => idxs_cons ⟨_, b1, decide_eq_true ?_⟩⟩
  have := of_decide_eq_true hi.at_
  omega
def enumI (ns : List Int) : List D := (List.range ns.length).map fun (i : Nat) => .tup [.int (i : Nat), .int (ns.getD i 0)]
theorem enum_ints (ns : List Int) : iEnum [.lst (ns.map .int)] = some (enumI ns) := by
  have e : iEnum [.lst (ns.map .int)] = some ((List.range (ns.map D.int).length).zipWith (fun i d => .tup [.int (i : Nat), d]) (ns.map .int)) := rfl
  rw [e]
  congr 1
  unfold enumI
  apply List.ext_getElem
  · simp
  · intro i h1 h2
    simp at h2
    simp [h2]
def numP (P : Int → Bool) : D → Bool
  | .tup [_, .int x] => P x
  | _ => false
section
variable {n : Nat} {S : Store}
theorem lc_idxs {i j : Nat} {t e : TE} {s : Sl} {ns : List Int} (P : Int → Bool) (hl : ns.length ≤ 100000)
    (ht : ∀ (a : Nat) x, t ((s.set i (some (.int a))).set j (some (.int x))) S = .ok (.bl (P x)) S) (he : ∀ (a : Nat) x, e ((s.set i (some (.int a))).set j (some (.int x))) S = .ok (.int a) S) :
    lcL (.tp [.nm i, .nm j]) t e s (enumI ns) [] S = .ok (.lst ((idxs P ns).map fun (a : Nat) => .int a)) S := by
  rw [lc_filtR (numP P) fstOf]
  · unfold idxs enumI
    rw [List.nil_append, List.filter_map, List.map_map]
    have e : (numP P ∘ fun (i : Nat) => D.tup [.int (i : Nat), .int (ns.getD i 0)]) = fun i : Nat => P (ns.getD i 0) := rfl
    rw [e]
    rfl
  · intro d hd
    obtain ⟨a, _, rfl⟩ := List.mem_map.mp hd
    exact ⟨(s.set i (some (.int (a : Nat)))).set j (some (.int (ns.getD a 0))), by simp, ht a _, fun _ => he a _⟩
  · rw [PySem.sizeLine_eq]
    simp [enumI]
    omega
theorem ints_max {ns : List Int} (h : 0 < ns.length) : oMaxL [.lst (ns.map .int)] S = some (.int (maxI ns), S) := by
  have e : intsL S (.lst (ns.map .int)) = some ns := by
    show intsOf (ns.map D.int) = some ns
    induction ns with
    | nil => rfl
    | cons i ns ih => cases ns with
      | nil => rfl
      | cons j ns => rw [List.map_cons]; simp only [intsOf, ih (by simp)]; rfl
  simp [oMaxL, e, h]
theorem ints_min {ns : List Int} (h : 0 < ns.length) : oMinL [.lst (ns.map .int)] S = some (.int (minI ns), S) := by
  have e : intsL S (.lst (ns.map .int)) = some ns := by
    show intsOf (ns.map D.int) = some ns
    induction ns with
    | nil => rfl
    | cons i ns ih => cases ns with
      | nil => rfl
      | cons j ns => rw [List.map_cons]; simp only [intsOf, ih (by simp)]; rfl
  simp [oMinL, e, h]
theorem ix_ints {ns : List Int} {i : Nat} (h : i < ns.length) : oIx (.lst (ns.map .int)) (.int i) S = some (.int (ns.getD i 0), S) := oIx_lst (n := i) (by simp [h])
theorem lc_nums {i : Nat} {t e : TE} {s : Sl} {ts : List Int} {len : Nat} (hl : ts.length ≤ 100000)
    (h : ∀ a : Nat, a < ts.length - len → t (s.set i (some (.int a))) S = .ok (.bl true) S ∧ e (s.set i (some (.int a))) S = .ok (.int (ts.getD (a + len) 0 - ts.getD a 0)) S) :
    lcL (.nm i) t e s (rngL 0 (ts.length - len)) [] S = .ok (.lst ((nums ts len).map .int)) S := by
  rw [lc_rng (fun a => .int (ts.getD (a + len) 0 - ts.getD a 0)) h (by omega)]
  unfold nums
  rw [List.map_map]
  rfl
theorem c_pair_of_length (ts : List Int) (len : Nat) (hl : len < ts.length) (hs : ts.length ≤ 10000) : callN Lib (n + 1) 20 [.lst (ts.map .int), .int len] S = .ok (pairD (pairOf ts len)) S := by
  rw [callN_eq (d := f_pair_of_length) rfl]
  generalize callN Lib n = c
  refine run_keep rfl ?_
  have hne : 0 < (nums ts len).length := by rw [nums_len]; omega
  have rg : iRng1 [.int ((ts.length : Int) - len)] = some (rngL 0 (ts.length - len)) := by
    have := iRng1_nat (m := ts.length - len) (by omega)
    rwa [show ((ts.length - len : Nat) : Int) = (ts.length : Int) - len by omega] at this
  have l1 : lcL (.nm 5) (eC (.bl true)) (w_pair_of_length_0 c) [some (.lst (ts.map .int)), some (.int len), none, none, none, none, none] (rngL 0 (ts.length - len)) [] S = .ok (.lst ((nums ts len).map .int)) S := lc_nums (by omega) (fun a ha => ⟨rfl, by
    have i1 := ix_ints (S := S) (ns := ts) (i := a + len) (by omega)
    have i2 := ix_ints (S := S) (ns := ts) (i := a) (by omega)
    push_cast at i1
    generalize ts.map D.int = L at i1 i2
    simp [w_pair_of_length_0, i1, i2]⟩)
  have mx := ints_max (S := S) hne
  have mn := ints_min (S := S) hne
  have en := enum_ints (nums ts len)
  have hnl : (nums ts len).length ≤ 100000 := by rw [nums_len]; omega
  by_cases h : maxI (nums ts len) - minI (nums ts len) < 2
  · have e0 : pairOf ts len = none := by unfold pairOf; rw [if_pos h]
    rw [e0]
    clear en
    generalize (nums ts len).map D.int = N at *
    simp [b_pair_of_length, rg, l1, mn, mx, h, pairD]
  · obtain ⟨⟨r1, h1, h2⟩, h3⟩ := pairOf_ex hl h
    obtain ⟨r2, h4, h5⟩ := h3 _ h2
    have e0 : pairOf ts len = some (fstI (fun x => decide (2 ≤ x - minI (nums ts len))) (nums ts len), fstI (fun y => decide (2 ≤ (nums ts len).getD (fstI (fun x => decide (2 ≤ x - minI (nums ts len))) (nums ts len)) 0 - y)) (nums ts len)) := by unfold pairOf; rw [if_neg h]
    rw [e0]
    have ixi := ix_ints (S := S) (ns := nums ts len) h2.lt
    generalize hP : (fun x => decide (2 ≤ x - minI (nums ts len))) = P at *
    generalize hi : fstI P (nums ts len) = i at *
    generalize hR : (fun y => decide (2 ≤ (nums ts len).getD i 0 - y)) = R at *
    generalize hj : fstI R (nums ts len) = j at *
    generalize hL : D.lst (ts.map .int) = L at *
    generalize hN : D.lst ((nums ts len).map .int) = N at *
    have l2 : lcL (.tp [.nm 5, .nm 6]) (e2 oGe (e2 oSub (eV 6) (eV 3)) (eC (.int 2))) (w_pair_of_length_1 c) [some L, some (.int len), some N, some (.int (minI (nums ts len))), none, none, none] (enumI (nums ts len)) [] S = .ok (.lst ((idxs P (nums ts len)).map fun (a : Nat) => .int a)) S :=
      lc_idxs P hnl (fun a x => by rw [← hP]; simp) (fun a x => by simp [w_pair_of_length_1])
    have l3 : lcL (.tp [.nm 5, .nm 6]) (e2 oGe (e2 oSub (e2 oIx (eV 2) (eV 4)) (eV 6)) (eC (.int 2))) (w_pair_of_length_2 c) [some L, some (.int len), some N, some (.int (minI (nums ts len))), some (.int i), none, none] (enumI (nums ts len)) [] S = .ok (.lst ((idxs R (nums ts len)).map fun (a : Nat) => .int a)) S :=
      lc_idxs R hnl (fun a x => by rw [← hR]; simp [ixi]) (fun a x => by simp [w_pair_of_length_2])
    rw [h1] at l2
    rw [h4] at l3
    have x1 : ∀ (a : Nat) (r : List Nat) S, oIx (.lst ((a :: r).map fun (a : Nat) => D.int a)) (.int 0) S = some (.int a, S) := fun a r S => oIx_lst (n := 0) rfl
    have x1i := x1 i r1
    have x1j := x1 j r2
    generalize ((i :: r1).map fun (a : Nat) => D.int a) = I1 at *
    generalize ((j :: r2).map fun (a : Nat) => D.int a) = J1 at *
    have oL : oLen [L] S = some (.int ts.length, S) := by rw [← hL]; simp
    simp [b_pair_of_length, oL, rg, l1, mn, mx, h, en, l2, x1i, l3, x1j, pairD]
theorem for_findD {p : Pat} {b : TSt} (f : D → Option D) (I : Sl → Prop) : ∀ (ds : List D), (∀ d ∈ ds, ∀ s, I s → ∃ s1, p.put d s = some s1 ∧ (match f d with | some x => b s1 S = some (.ret x, S) | none => ∃ s2, b s1 S = some (.nx s2, S) ∧ I s2)) →
    ∀ s, I s → match ds.findSome? f with | some x => forL p b ds s S = some (.ret x, S) | none => ∃ s', forL p b ds s S = some (.nx s', S) ∧ I s'
  | [], _, s, hs => ⟨s, rfl, hs⟩
  | d :: ds, h, s, hs => by
    obtain ⟨s1, h1, h2⟩ := h d List.mem_cons_self s hs
    rw [List.findSome?_cons]
    cases e : f d with
    | some x =>
      simp only [e] at h2
      simp only
      unfold forL
      simp only [h1, h2]
    | none =>
      simp only [e] at h2
      obtain ⟨s2, h3, h4⟩ := h2
      have := for_findD f I ds (fun d' hd => h d' (List.mem_cons_of_mem _ hd)) s2 h4
      simp only
      cases e2 : ds.findSome? f with
      | some x =>
        rw [e2] at this
        unfold forL
        simp only [h1, h3]
        exact this
      | none =>
        rw [e2] at this
        obtain ⟨s', h5, h6⟩ := this
        refine ⟨s', ?_, h6⟩
        unfold forL
        simp only [h1, h3]
        exact h5
def firstP (l : List Bool) : Option (Nat × Nat × Nat) := (List.range (l.length - 1)).findSome? fun a => (pairOf (cnts l) (a + 1)).map fun ij => (ij.1, ij.2, a + 1)
def tripD : Option (Nat × Nat × Nat) → D
  | none => .non
  | some (i, j, k) => .tup [.int i, .int j, .int k]
theorem findSome_map {α β γ : Type} (f : β → Option γ) (g : α → β) (l : List α) : (l.map g).findSome? f = l.findSome? (f ∘ g) := by
  induction l with
  | nil => rfl
  | cons a l ih => simp [List.findSome?_cons, ih]
theorem iRng2_1 {m : Nat} (h : m < 1000000) : iRng2 [.int 1, .int m] = some (rngL 1 (m - 1)) := by
  have o1 : rngOk 1 = true := by decide
  have o2 : rngOk (m : Int) = true := by unfold rngOk; simp only [Bool.and_eq_true, decide_eq_true_eq]; omega
  have e : ((m : Int) - 1).toNat = m - 1 := by omega
  simp [iRng2, o1, o2, e]
def lenF (l : List Bool) : D → Option D
  | .int a => match pairOf (cnts l) a.toNat with
    | some (i, j) => some (.tup [.int i, .int j, .int a])
    | none => none
  | _ => none
theorem find_lens (l : List Bool) : (rngL 1 (l.length - 1)).findSome? (lenF l) = match firstP l with | some x => some (tripD (some x)) | none => none := by
  unfold rngL firstP
  rw [findSome_map]
  generalize List.range (l.length - 1) = r
  induction r with
  | nil => rfl
  | cons a r ih =>
    rw [List.findSome?_cons, List.findSome?_cons]
    have e : (1 + (a : Int)).toNat = a + 1 := by omega
    simp only [Function.comp, lenF, e]
    cases h : pairOf (cnts l) (a + 1) with
    | some ij =>
      obtain ⟨i, j⟩ := ij
      simp only [Option.map_some, tripD]
      rw [show (((a + 1 : Nat)) : Int) = 1 + (a : Int) by omega]
    | none =>
      simp only [Option.map_none]
      exact ih
theorem c_first_pair (l : List Bool) (hl : l.length ≤ 5000) : callN Lib (n + 2) 21 [.str (wrd l)] S = .ok (tripD (firstP l)) S := by
  have e1 : ∀ S, callN Lib (n + 1) 16 [.str (wrd l)] S = .ok (.lst ((cnts l).map .int)) S := fun S => c_sums_of (n := n) l (by omega)
  have e2 : ∀ (a : Nat) S, 1 ≤ a → a ≤ l.length → callN Lib (n + 1) 20 [.lst ((cnts l).map .int), .int a] S = .ok (pairD (pairOf (cnts l) a)) S := fun a S h1 h2 => c_pair_of_length (n := n) (cnts l) a (by rw [cnts_len]; omega) (by rw [cnts_len]; omega)
  rw [callN_eq (d := f_first_pair) rfl]
  generalize callN Lib (n + 1) = c at e1 e2
  refine run_keep rfl ?_
  generalize hC : D.lst ((cnts l).map .int) = C at e1 e2
  have fd := for_findD (S := S) (p := .nm 2) (b := w_first_pair_0 c) (lenF l) (fun s => ∃ x2 x3, s = [some (.str (wrd l)), some C, x2, x3]) (rngL 1 (l.length - 1)) (fun d hd s ⟨x2, x3, hs⟩ => by
    subst hs
    obtain ⟨a, ha, rfl⟩ := rngL_mem hd
    refine ⟨_, rfl, ?_⟩
    have e : (1 + (a : Int)).toNat = a + 1 := by omega
    have e3 := e2 (a + 1) S (by omega) (by omega)
    rw [show (((a + 1 : Nat)) : Int) = 1 + (a : Int) by omega] at e3
    simp only [lenF, e]
    cases h : pairOf (cnts l) (a + 1) with
    | some ij =>
      obtain ⟨i, j⟩ := ij
      rw [h] at e3
      simp [w_first_pair_0, e3, pairD]
    | none =>
      rw [h] at e3
      simp [w_first_pair_0, e3, pairD]) [some (.str (wrd l)), some C, none, none] ⟨_, _, rfl⟩
  rw [find_lens] at fd
  have oL := oLen_wrd (S := S) (l := l) (by omega)
  have rg := iRng2_1 (m := l.length) (by omega)
  cases h : firstP l with
  | some x =>
    rw [h] at fd
    simp only at fd
    simp [b_first_pair, e1, oL, rg, fd]
  | none =>
    rw [h] at fd
    obtain ⟨s', fd, -⟩ := fd
    simp [b_first_pair, e1, oL, rg, fd, tripD]
theorem cnts_get {l : List Bool} {i : Nat} (h : i ≤ l.length) : (cnts l).getD i 0 = cnt l i := by
  unfold cnts
  have hi : i < l.length + 1 := by omega
  simp [hi]
theorem nums_get {l : List Bool} {a i : Nat} (h : i + a ≤ l.length) : (nums (cnts l) a).getD i 0 = gn (cnt l) i a := by
  have hi : i < (cnts l).length - a := by rw [cnts_len]; omega
  have e : (nums (cnts l) a).getD i 0 = (cnts l).getD (i + a) 0 - (cnts l).getD i 0 := by
    unfold nums
    simp [hi]
  rw [e, cnts_get (by omega), cnts_get (by omega)]
  rfl
theorem mem_nums {l : List Bool} {a : Nat} {x : Int} (ha : a ≤ l.length) : x ∈ nums (cnts l) a ↔ ∃ i, i + a ≤ l.length ∧ x = gn (cnt l) i a := by
  constructor
  · intro h
    obtain ⟨i, hi, rfl⟩ := List.getElem_of_mem h
    rw [nums_len, cnts_len] at hi
    refine ⟨i, by omega, ?_⟩
    have := nums_get (l := l) (a := a) (i := i) (by omega)
    rw [← this]
    rw [List.getD_eq_getElem?_getD, List.getElem?_eq_getElem (by rw [nums_len, cnts_len]; omega)]
    rfl
  · rintro ⟨i, hi, rfl⟩
    rw [← nums_get hi]
    have hl : i < (nums (cnts l) a).length := by rw [nums_len, cnts_len]; omega
    rw [List.getD_eq_getElem?_getD, List.getElem?_eq_getElem hl]
    exact List.getElem_mem hl
theorem pairOf_none {l : List Bool} {a : Nat} (ha : a ≤ l.length) : pairOf (cnts l) a = none ↔ ∀ i j, i + a ≤ l.length → j + a ≤ l.length → gn (cnt l) i a ≤ gn (cnt l) j a + 1 := by
  have hne : 0 < (nums (cnts l) a).length := by rw [nums_len, cnts_len]; omega
  obtain ⟨a1, a2⟩ := maxI_mem hne
  obtain ⟨b1, b2⟩ := minI_mem hne
  unfold pairOf
  constructor
  · intro h i j hi hj
    split at h
    · have h1 := a2 _ ((mem_nums ha).mpr ⟨i, hi, rfl⟩)
      have h2 := b2 _ ((mem_nums ha).mpr ⟨j, hj, rfl⟩)
      omega
    · cases h
  · intro h
    rw [if_pos]
    obtain ⟨i, hi, e1⟩ := (mem_nums ha).mp a1
    obtain ⟨j, hj, e2⟩ := (mem_nums ha).mp b1
    have := h i j hi hj
    omega
theorem firstP_none {l : List Bool} : firstP l = none ↔ Bal (cnt l) l.length := by
  unfold firstP
  rw [List.findSome?_eq_none_iff]
  constructor
  · intro h i j a hi hj
    by_cases h0 : a = 0
    · subst h0; simp [gn]
    · by_cases h1 : a = l.length
      · have e1 : i = 0 := by omega
        have e2 : j = 0 := by omega
        rw [e1, e2]; omega
      · have := h (a - 1) (List.mem_range.mpr (by omega))
        rw [show a - 1 + 1 = a by omega, Option.map_eq_none_iff] at this
        exact (pairOf_none (by omega)).mp this i j hi hj
  · intro B a ha
    have := List.mem_range.mp ha
    rw [Option.map_eq_none_iff, pairOf_none (by omega)]
    exact fun i j hi hj => B i j (a + 1) hi hj
theorem step01 (l : List Bool) : Step01 (cnt l) l.length := by
  refine ⟨by simp [cnt], fun i hi => ?_⟩
  unfold cnt
  rw [List.take_succ, List.count_append]
  have : (l[i]?.toList).count true ≤ 1 := by
    cases h : l[i]? with
    | none => simp
    | some b => cases b <;> simp
  omega
theorem c_is_even {l : List Bool} (h0 : 0 < l.length) (h1 : l.length ≤ 500) : callN Lib (n + 3) 59 [.str (wrd l)] S = .ok (.bl (firstP l).isNone) S := by
  have e1 : callN Lib (n + 2) 14 [.str (wrd l)] S = .ok (.bl true) S := by
    rw [c_is_row _ (thing_wrd (by omega)), show rowD (.str (wrd l)) = true from row_wrd h0 h1]
  have e2 := c_first_pair (n := n) (S := S) l (by omega)
  rw [callN_eq (d := f_is_even) rfl]
  generalize callN Lib (n + 2) = c at e1 e2
  refine run_keep rfl ?_
  cases h : firstP l with
  | none => rw [h] at e2; simp [b_is_even, e1, e2, tripD]
  | some x => rw [h] at e2; simp [b_is_even, e1, e2, tripD]
end
end Q
set_option maxHeartbeats 1000000
namespace Q
open PySem L2
def frD (x y : Int) : D := .tup [.int (lo x y).1, .int (lo x y).2]
theorem lo_mul {u v g : Int} (hg : 0 < g) (hv : 0 < v) : lo (u * g) (v * g) = lo u v := by
  unfold lo
  have e : Int.gcd (u * g) (v * g) = Int.gcd u v * g.natAbs := Int.gcd_mul_right ..
  have eg : ((Int.gcd (u * g) (v * g) : Nat) : Int) = (Int.gcd u v : Nat) * g := by
    rw [e]
    push_cast
    congr 1
    omega
  have g1 : 0 < Int.gcd u v := Int.gcd_pos_of_ne_zero_right _ (by omega)
  rw [eg]
  congr 1
  · exact Int.mul_ediv_mul_of_pos_left _ _ hg
  · exact Int.mul_ediv_mul_of_pos_left _ _ hg
theorem lo_zero {q : Int} (hq : 0 < q) : lo 0 q = (0, 1) := by
  have := lo_mul (u := 0) (v := 1) hq (by omega)
  rw [Int.zero_mul, Int.one_mul] at this
  rw [this]
  rfl
theorem lo_one {q : Int} (hq : 0 < q) : lo q q = (1, 1) := by
  have := lo_mul (u := 1) (v := 1) hq (by omega)
  rw [Int.one_mul] at this
  rw [this]
  rfl
theorem frD_zero {q : Int} (hq : 0 < q) : frD 0 q = .tup [.int 0, .int 1] := by unfold frD; rw [lo_zero hq]
theorem frD_one {q : Int} (hq : 0 < q) : frD q q = .tup [.int 1, .int 1] := by unfold frD; rw [lo_one hq]
theorem lo_fac {x y : Int} (hy : 0 < y) : ∃ g : Int, 0 < g ∧ x = (lo x y).1 * g ∧ y = (lo x y).2 * g := ⟨(Int.gcd x y : Nat), (lo_g hy).1, lo_x.symm, lo_y.symm⟩
theorem lo_lt_iff {a b q r : Int} (hq : 0 < q) (hr : 0 < r) : (lo a q).1 * (lo b r).2 < (lo b r).1 * (lo a q).2 ↔ a * r < b * q := by
  obtain ⟨g, hg, e1, e2⟩ := lo_fac (x := a) hq
  obtain ⟨h, hh, e3, e4⟩ := lo_fac (x := b) hr
  generalize (lo a q).1 = a' at *
  generalize (lo a q).2 = q' at *
  generalize (lo b r).1 = b' at *
  generalize (lo b r).2 = r' at *
  have f1 : a * r = a' * r' * (g * h) := by rw [e1, e4]; simp only [Int.mul_assoc, Int.mul_comm, Int.mul_left_comm]
  have f2 : b * q = b' * q' * (g * h) := by rw [e3, e2]; simp only [Int.mul_assoc, Int.mul_comm, Int.mul_left_comm]
  rw [f1, f2]
  have hp := Int.mul_pos hg hh
  constructor
  · intro z; exact Int.mul_lt_mul_of_pos_right z hp
  · intro z; exact Int.lt_of_mul_lt_mul_right z (Int.le_of_lt hp)
section
variable {n : Nat} {S : Store}
theorem small_lo {x y b : Int} (hy : 0 < y) (hx : -b ≤ x ∧ x ≤ b) (hyb : y ≤ b) : (-b ≤ (lo x y).1 ∧ (lo x y).1 ≤ b) ∧ 0 < (lo x y).2 ∧ (lo x y).2 ≤ b := by
  obtain ⟨g, hg, e1, e2⟩ := lo_fac (x := x) hy
  have h1 := lo_y1 (x := x) hy
  have h2 := lo_y2 (x := x) hy
  refine ⟨?_, by omega, by omega⟩
  generalize (lo x y).1 = x' at *
  have g1 : 1 ≤ g := hg
  by_cases h0 : 0 ≤ x'
  · have : x' * 1 ≤ x' * g := Int.mul_le_mul_of_nonneg_left g1 h0
    omega
  · have : (-x') * 1 ≤ (-x') * g := Int.mul_le_mul_of_nonneg_left g1 (by omega)
    rw [Int.neg_mul, Int.neg_mul] at this
    omega
theorem c_frD (x y : Int) (hy : 0 < y) (hy2 : y < 1000000000) : callN Lib (n + 2) 6 [.int x, .int y] S = .ok (frD x y) S := c_frac x y hy hy2
theorem lt_same {a b q : Int} (hq : 0 < q) : a * q < b * q ↔ a < b := ⟨fun h => Int.lt_of_mul_lt_mul_right h (Int.le_of_lt hq), fun h => Int.mul_lt_mul_of_pos_right h hq⟩
end
theorem for_idxL {p : Pat} {b : TSt} {S : Store} (I : Nat → Sl → Prop) (ds : List D) (h : ∀ k d s, ds[k]? = some d → I k s → ∃ s1, p.put d s = some s1 ∧ ∃ s2, b s1 S = some (.nx s2, S) ∧ I (k + 1) s2) :
    ∀ (m : Nat) (s : Sl), m ≤ ds.length → I m s → ∃ s', forL p b (ds.drop m) s S = some (.nx s', S) ∧ I ds.length s' := by
  intro m
  induction hm : ds.length - m generalizing m with
  | zero =>
    intro s hl hi
    have e : m = ds.length := by omega
    subst e
    refine ⟨s, ?_, hi⟩
    rw [List.drop_length]
    rfl
  | succ r ih =>
    intro s hl hi
    have hlt : m < ds.length := by omega
    obtain ⟨s1, h1, s2, h2, h3⟩ := h m ds[m] s (by simp [hlt]) hi
    obtain ⟨s', h4, h5⟩ := ih (m + 1) (by omega) s2 (by omega) h3
    refine ⟨s', ?_, h5⟩
    rw [List.drop_eq_getElem_cons hlt]
    unfold forL
    simp only [h1, h2]
    exact h4
theorem rngL_get {lo : Int} {m k : Nat} {d : D} (h : (rngL lo m)[k]? = some d) : k < m ∧ d = .int (lo + k) := by
  unfold rngL at h
  have hk := (List.getElem?_eq_some_iff.mp h).1
  simp at hk
  rw [List.getElem?_map, List.getElem?_range hk] at h
  cases h
  exact ⟨hk, rfl⟩
end Q
set_option maxHeartbeats 1000000
namespace Q
open PySem L2
theorem cnt_bd {l : List Bool} {i : Nat} (h : i ≤ l.length) : 0 ≤ cnt l i ∧ cnt l i ≤ i := by
  have := gn_bd (step01 l) 0 i (by omega)
  unfold gn at this
  rw [Nat.zero_add, (step01 l).1] at this
  omega
structure LowInv (t : Nat → Int) (n : Nat) (done : Nat → Nat → Prop) (x y : Int) : Prop where
  y0 : 0 < y
  ge : ∀ i j, done i j → i < j ∧ (t j - t i - 1) * y ≤ x * ((j : Int) - i)
  at_ : (x = -1 ∧ y = 1) ∨ ∃ i a : Nat, 1 ≤ a ∧ i + a ≤ n ∧ x = gn t i a - 1 ∧ y = a
structure HighInv (t : Nat → Int) (n : Nat) (done : Nat → Nat → Prop) (u v : Int) : Prop where
  v0 : 0 < v
  le : ∀ i j, done i j → i < j ∧ u * ((j : Int) - i) ≤ (t j - t i + 1) * v
  at_ : (u = 2 ∧ v = 1) ∨ ∃ i a : Nat, 1 ≤ a ∧ i + a ≤ n ∧ u = gn t i a + 1 ∧ v = a
theorem le_lift {a b x y g d : Int} (hd : 0 < d) (hb : 0 < b) (hy : 0 < y) (h1 : g * y ≤ x * d) (h2 : x * b < a * y) : g * b ≤ a * d := by
  -- g y b <= x d b < a y d
  have h3 : g * y * b ≤ x * d * b := Int.mul_le_mul_of_nonneg_right h1 (by omega)
  have h4 : x * b * d < a * y * d := Int.mul_lt_mul_of_pos_right h2 hd
  have e1 : g * y * b = g * b * y := by rw [Int.mul_assoc, Int.mul_comm y b, ← Int.mul_assoc]
  have e2 : x * d * b = x * b * d := by rw [Int.mul_assoc, Int.mul_comm d b, ← Int.mul_assoc]
  have e3 : a * y * d = a * d * y := by rw [Int.mul_assoc, Int.mul_comm y d, ← Int.mul_assoc]
  have h5 : g * b * y < a * d * y ∨ g * b * y ≤ a * d * y := .inr (by omega)
  exact Int.le_of_mul_le_mul_right (show g * b * y ≤ a * d * y by omega) hy
theorem ge_lift {a b u v g d : Int} (hd : 0 < d) (hb : 0 < b) (hv : 0 < v) (h1 : u * d ≤ g * v) (h2 : a * v < u * b) : a * d ≤ g * b := by
  have h3 : u * d * b ≤ g * v * b := Int.mul_le_mul_of_nonneg_right h1 (by omega)
  have h4 : a * v * d < u * b * d := Int.mul_lt_mul_of_pos_right h2 hd
  have e1 : g * v * b = g * b * v := by rw [Int.mul_assoc, Int.mul_comm v b, ← Int.mul_assoc]
  have e2 : u * d * b = u * b * d := by rw [Int.mul_assoc, Int.mul_comm d b, ← Int.mul_assoc]
  have e3 : a * v * d = a * d * v := by rw [Int.mul_assoc, Int.mul_comm v d, ← Int.mul_assoc]
  exact Int.le_of_mul_le_mul_right (show a * d * v ≤ g * b * v by omega) hv
def also (done : Nat → Nat → Prop) (i j : Nat) : Nat → Nat → Prop := fun a b => done a b ∨ (a = i ∧ b = j)
section
variable {t : Nat → Int} {n : Nat} {done : Nat → Nat → Prop} {x y u v : Int}
theorem low_step (I : LowInv t n done x y) {i j : Nat} (hij : i < j) (hj : j ≤ n) : LowInv t n (also done i j) (if x * ((j : Int) - i) < (t j - t i - 1) * y then t j - t i - 1 else x) (if x * ((j : Int) - i) < (t j - t i - 1) * y then (j : Int) - i else y) := by
  have hgn : gn t i (j - i) = t j - t i := by unfold gn; rw [show i + (j - i) = j by omega]
  split
  · rename_i h
    refine ⟨by omega, ?_, .inr ⟨i, j - i, by omega, by omega, by rw [hgn], by omega⟩⟩
    rintro a b (z | ⟨rfl, rfl⟩)
    · obtain ⟨z1, z2⟩ := I.ge a b z
      exact ⟨z1, le_lift (by omega) (by omega) I.y0 z2 h⟩
    · exact ⟨hij, Int.le_refl _⟩
  · rename_i h
    refine ⟨I.y0, ?_, I.at_⟩
    rintro a b (z | ⟨rfl, rfl⟩)
    · exact I.ge a b z
    · exact ⟨hij, by omega⟩
theorem high_step (I : HighInv t n done u v) {i j : Nat} (hij : i < j) (hj : j ≤ n) : HighInv t n (also done i j) (if (t j - t i + 1) * v < u * ((j : Int) - i) then t j - t i + 1 else u) (if (t j - t i + 1) * v < u * ((j : Int) - i) then (j : Int) - i else v) := by
  have hgn : gn t i (j - i) = t j - t i := by unfold gn; rw [show i + (j - i) = j by omega]
  split
  · rename_i h
    refine ⟨by omega, ?_, .inr ⟨i, j - i, by omega, by omega, by rw [hgn], by omega⟩⟩
    rintro a b (z | ⟨rfl, rfl⟩)
    · obtain ⟨z1, z2⟩ := I.le a b z
      exact ⟨z1, ge_lift (by omega) (by omega) I.v0 z2 h⟩
    · exact ⟨hij, Int.le_refl _⟩
  · rename_i h
    refine ⟨I.v0, ?_, I.at_⟩
    rintro a b (z | ⟨rfl, rfl⟩)
    · exact I.le a b z
    · exact ⟨hij, by omega⟩
theorem low_all (I : LowInv t n done x y) (h : ∀ i j, i < j → j ≤ n → done i j) : LowOf t n x y := ⟨I.y0, fun i a ha hi => by
  have := (I.ge i (i + a) (h _ _ (by omega) hi)).2
  unfold gn
  rw [show ((i + a : Nat) : Int) - i = a by omega] at this
  exact this, I.at_⟩
theorem high_all (I : HighInv t n done u v) (h : ∀ i j, i < j → j ≤ n → done i j) : HighOf t n u v := ⟨I.v0, fun i a ha hi => by
  have := (I.le i (i + a) (h _ _ (by omega) hi)).2
  unfold gn
  rw [show ((i + a : Nat) : Int) - i = a by omega] at this
  exact this, I.at_⟩
theorem LowInv.sub {done' : Nat → Nat → Prop} (I : LowInv t n done x y) (h : ∀ i j, done' i j → done i j) : LowInv t n done' x y := ⟨I.y0, fun i j z => I.ge i j (h i j z), I.at_⟩
theorem HighInv.sub {done' : Nat → Nat → Prop} (I : HighInv t n done u v) (h : ∀ i j, done' i j → done i j) : HighInv t n done' u v := ⟨I.v0, fun i j z => I.le i j (h i j z), I.at_⟩
end
theorem lo_eq {x y x' y' : Int} (hy : 0 < y) (hy' : 0 < y') (h : x * y' = x' * y) : lo x y = lo x' y' := by
  rw [← lo_mul (u := x) (v := y) hy' hy, ← lo_mul (u := x') (v := y') hy hy', h, Int.mul_comm y y']
theorem low_le {t : Nat → Int} {n : Nat} {x y x' y' : Int} (s : Step01 t n) (hn : 1 ≤ n) (A : LowOf t n x y) (B : LowOf t n x' y') : x * y' ≤ x' * y := by
  rcases A.at_ with ⟨rfl, rfl⟩ | ⟨i, a, ha, hi, rfl, rfl⟩
  · have h1 := B.ge 0 1 (by omega) (by omega)
    have h2 := (gn_bd s 0 1 (by omega)).1
    have h3 : 0 ≤ gn t 0 1 * y' := Int.mul_nonneg h2 (Int.le_of_lt B.y0)
    rw [Int.sub_mul] at h1
    omega
  · exact B.ge i a ha hi
theorem high_le {t : Nat → Int} {n : Nat} {x y x' y' : Int} (s : Step01 t n) (hn : 1 ≤ n) (A : HighOf t n x y) (B : HighOf t n x' y') : x' * y ≤ x * y' := by
  rcases A.at_ with ⟨rfl, rfl⟩ | ⟨i, a, ha, hi, rfl, rfl⟩
  · have h1 := B.le 0 1 (by omega) (by omega)
    have h2 := (gn_bd s 0 1 (by omega)).2
    have h3 : (gn t 0 1 + 1) * y' ≤ 2 * y' := Int.mul_le_mul_of_nonneg_right (by omega) (Int.le_of_lt B.y0)
    omega
  · exact B.le i a ha hi
theorem low_uniq {t : Nat → Int} {n : Nat} {x y x' y' : Int} (s : Step01 t n) (hn : 1 ≤ n) (A : LowOf t n x y) (B : LowOf t n x' y') : lo x y = lo x' y' :=
  lo_eq A.y0 B.y0 (Int.le_antisymm (low_le s hn A B) (low_le s hn B A))
theorem high_uniq {t : Nat → Int} {n : Nat} {x y x' y' : Int} (s : Step01 t n) (hn : 1 ≤ n) (A : HighOf t n x y) (B : HighOf t n x' y') : lo x y = lo x' y' :=
  lo_eq A.y0 B.y0 (Int.le_antisymm (high_le s hn B A) (high_le s hn A B))
section
variable {n : Nat} {S : Store}
theorem LowInv.bd {l : List Bool} {done : Nat → Nat → Prop} {x y : Int} (I : LowInv (cnt l) l.length done x y) (hl : l.length ≤ 1000) : -1 ≤ x ∧ x ≤ 1000 ∧ y ≤ 1000 := by
  rcases I.at_ with ⟨rfl, rfl⟩ | ⟨i, a, h1, h2, rfl, rfl⟩
  · omega
  · have := gn_bd (step01 l) i a h2; omega
theorem HighInv.bd {l : List Bool} {done : Nat → Nat → Prop} {u v : Int} (I : HighInv (cnt l) l.length done u v) (hl : l.length ≤ 1000) : 0 ≤ u ∧ u ≤ 1001 ∧ v ≤ 1000 := by
  rcases I.at_ with ⟨rfl, rfl⟩ | ⟨i, a, h1, h2, rfl, rfl⟩
  · omega
  · have := gn_bd (step01 l) i a h2; omega
def EndS (l : List Bool) (done : Nat → Nat → Prop) (s : Sl) (x3 x4 : Option D) : Prop := ∃ x y u v x5, s = [some (.lst ((cnts l).map .int)), some (.tup [.int x, .int y]), some (.tup [.int u, .int v]), x3, x4, x5] ∧ LowInv (cnt l) l.length done x y ∧ HighInv (cnt l) l.length done u v
theorem low_bd {l : List Bool} {x y : Int} (A : LowOf (cnt l) l.length x y) : -1 ≤ x ∧ x ≤ l.length ∧ (y = 1 ∨ y ≤ l.length) := by
  rcases A.at_ with ⟨rfl, rfl⟩ | ⟨i, a, h1, h2, rfl, rfl⟩
  · omega
  · have := gn_bd (step01 l) i a h2; omega
theorem high_bd {l : List Bool} {x y : Int} (A : HighOf (cnt l) l.length x y) : 1 ≤ x ∧ x ≤ l.length + 2 ∧ (y = 1 ∨ y ≤ l.length) := by
  rcases A.at_ with ⟨rfl, rfl⟩ | ⟨i, a, h1, h2, rfl, rfl⟩
  · omega
  · have := gn_bd (step01 l) i a h2; omega
end
end Q
set_option maxHeartbeats 1000000
namespace Q
open PySem L2
def stA (t : Nat → Int) (p q : Int) : Nat → Int
  | 0 => 0
  | k + 1 => max (stA t p q k) (t k * q - k * p)
def stB (t : Nat → Int) (p q : Int) : Nat → Int
  | 0 => q
  | k + 1 => min (stB t p q k) (t k * q - k * p + q)
theorem stA_succ (t : Nat → Int) (p q : Int) (k : Nat) : stA t p q (k + 1) = max (stA t p q k) (t k * q - k * p) := rfl
theorem stB_succ (t : Nat → Int) (p q : Int) (k : Nat) : stB t p q (k + 1) = min (stB t p q k) (t k * q - k * p + q) := rfl
theorem stA_ge (t : Nat → Int) (p q : Int) : ∀ (k : Nat), 0 ≤ stA t p q k ∧ ∀ i, i < k → t i * q - i * p ≤ stA t p q k
  | 0 => ⟨Int.le_refl _, fun i h => by omega⟩
  | k + 1 => by
    obtain ⟨h0, h1⟩ := stA_ge t p q k
    unfold stA
    refine ⟨by omega, fun i hi => ?_⟩
    by_cases h : i = k
    · subst h; omega
    · have := h1 i (by omega); omega
theorem stA_at (t : Nat → Int) (p q : Int) : ∀ (k : Nat), stA t p q k = 0 ∨ ∃ i, i < k ∧ stA t p q k = t i * q - i * p
  | 0 => .inl rfl
  | k + 1 => by
    unfold stA
    by_cases h : stA t p q k ≤ t k * q - k * p
    · rw [Int.max_eq_right h]
      exact .inr ⟨k, by omega, rfl⟩
    · rw [Int.max_eq_left (by omega)]
      rcases stA_at t p q k with z | ⟨i, hi, z⟩
      · exact .inl z
      · exact .inr ⟨i, by omega, z⟩
theorem stB_le (t : Nat → Int) (p q : Int) : ∀ (k : Nat), stB t p q k ≤ q ∧ ∀ i, i < k → stB t p q k ≤ t i * q - i * p + q
  | 0 => ⟨Int.le_refl _, fun i h => by omega⟩
  | k + 1 => by
    obtain ⟨h0, h1⟩ := stB_le t p q k
    unfold stB
    refine ⟨by omega, fun i hi => ?_⟩
    by_cases h : i = k
    · subst h; omega
    · have := h1 i (by omega); omega
theorem stB_at (t : Nat → Int) (p q : Int) : ∀ (k : Nat), stB t p q k = q ∨ ∃ i, i < k ∧ stB t p q k = t i * q - i * p + q
  | 0 => .inl rfl
  | k + 1 => by
    unfold stB
    by_cases h : t k * q - k * p + q ≤ stB t p q k
    · rw [Int.min_eq_right h]
      exact .inr ⟨k, by omega, rfl⟩
    · rw [Int.min_eq_left (by omega)]
      rcases stB_at t p q k with z | ⟨i, hi, z⟩
      · exact .inl z
      · exact .inr ⟨i, by omega, z⟩
theorem startOf {t : Nat → Int} {n : Nat} (h0 : t 0 = 0) (p q : Int) : StartOf t n p q (stA t p q (n + 1)) := by
  obtain ⟨a0, a1⟩ := stA_ge t p q (n + 1)
  refine ⟨fun i hi => a1 i (by omega), ?_⟩
  rcases stA_at t p q (n + 1) with z | ⟨i, hi, z⟩
  · exact ⟨0, by omega, by rw [z, h0]; simp⟩
  · exact ⟨i, by omega, z⟩
section
variable {n : Nat} {S : Store}
theorem lev_bd {l : List Bool} {i : Nat} (hi : i ≤ l.length) (hl : l.length ≤ 1000) {p q : Int} (hp : -100000 ≤ p ∧ p ≤ 100000) (hq : 0 < q) (hq2 : q ≤ 10000) : -200000000 ≤ cnt l i * q - i * p ∧ cnt l i * q - i * p ≤ 200000000 := by
  have hc := cnt_bd hi
  have h1 : 0 ≤ cnt l i * q := Int.mul_nonneg hc.1 (by omega)
  have h2 : cnt l i * q ≤ 1000 * 10000 := Int.mul_le_mul (by omega) hq2 (by omega) (by omega)
  have h3 : (i : Int) * p ≤ 1000 * 100000 := by
    by_cases h : 0 ≤ p
    · exact Int.mul_le_mul (by omega) (by omega) h (by omega)
    · have : (i : Int) * p ≤ 0 := Int.mul_nonpos_of_nonneg_of_nonpos (by omega) (by omega)
      omega
  have h4 : -(1000 * 100000) ≤ (i : Int) * p := by
    by_cases h : 0 ≤ p
    · have : 0 ≤ (i : Int) * p := Int.mul_nonneg (by omega) h
      omega
    · have : (i : Int) * (-p) ≤ 1000 * 100000 := Int.mul_le_mul (by omega) (by omega) (by omega) (by omega)
      rw [Int.mul_neg] at this
      omega
  omega
def topOf (x y b : Int) : Int := max 0 (x * b / y + 1)
def Stop (x y u v b : Int) : Prop := topOf x y b ≤ b ∧ topOf x y b * v < u * b
theorem stop_of {x y u v p q : Int} (hy : 0 < y) (hv : 0 < v) (m : Mid x y u v p q) : topOf x y q ≤ p ∧ Stop x y u v q := by
  have h1 : x * q / y < p := (Int.ediv_lt_iff_lt_mul hy).mpr m.lo
  have h2 : topOf x y q ≤ p := by unfold topOf; have := m.p0; omega
  refine ⟨h2, Int.le_trans h2 m.p1, ?_⟩
  have : topOf x y q * v ≤ p * v := Int.mul_le_mul_of_nonneg_right h2 (by omega)
  have := m.hi
  omega
theorem mid_of {x y u v b : Int} (hy : 0 < y) (hb : 1 ≤ b) (s : Stop x y u v b) : Mid x y u v (topOf x y b) b := by
  refine ⟨hb, by unfold topOf; omega, s.1, ?_, s.2⟩
  have h : x * b / y + 1 ≤ topOf x y b := by unfold topOf; omega
  have h2 : x * b < (x * b / y + 1) * y := Int.lt_ediv_add_one_mul_self _ hy
  have h3 : (x * b / y + 1) * y ≤ topOf x y b * y := Int.mul_le_mul_of_nonneg_right h (by omega)
  omega
theorem least_stop {P : Int → Prop} : ∀ (m : Nat), (∃ b : Int, 1 ≤ b ∧ b ≤ m ∧ P b) → ∃ q : Int, 1 ≤ q ∧ q ≤ m ∧ P q ∧ ∀ b, 1 ≤ b → b < q → ¬ P b
  | 0, ⟨b, h1, h2, _⟩ => by omega
  | m + 1, ⟨b, h1, h2, h3⟩ => by
    by_cases h : ∃ b : Int, 1 ≤ b ∧ b ≤ m ∧ P b
    · obtain ⟨q, a1, a2, a3, a4⟩ := least_stop m h
      exact ⟨q, a1, by omega, a3, a4⟩
    · refine ⟨b, h1, h2, h3, fun c c1 c2 hc => h ⟨c, c1, by omega, hc⟩⟩
theorem mid_gcd {x y u v q : Int} (hy : 0 < y) (hv : 0 < v) (hq : 1 ≤ q) (s : Stop x y u v q) (hl : ∀ b, 1 ≤ b → b < q → ¬ Stop x y u v b) : Int.gcd (topOf x y q) q = 1 := by
  have m := mid_of hy hq s
  obtain ⟨g, hg, e1, e2⟩ := lo_fac (x := topOf x y q) (y := q) (by omega)
  have b1 := lo_y1 (x := topOf x y q) (y := q) (by omega)
  have b2 := lo_y2 (x := topOf x y q) (y := q) (by omega)
  have b3 := lo_x0 (x := topOf x y q) (y := q) m.p0
  have b4 := lo_le (x := topOf x y q) (y := q) (by omega) m.p1
  have b5 := lo_gcd (x := topOf x y q) (y := q) (by omega)
  generalize hp : topOf x y q = p at *
  by_cases h1 : (lo p q).2 < q
  · exfalso
    have m2 : Mid x y u v (lo p q).1 (lo p q).2 := by
      refine ⟨b1, b3, b4, ?_, ?_⟩
      · have hm := m.lo
        have f1 : x * q = x * (lo p q).2 * g := by rw [Int.mul_assoc, ← e2]
        have f2 : p * y = (lo p q).1 * y * g := by rw [Int.mul_assoc, Int.mul_comm y g, ← Int.mul_assoc, ← e1]
        rw [f1, f2] at hm
        exact Int.lt_of_mul_lt_mul_right hm (by omega)
      · have hm := m.hi
        have f1 : p * v = (lo p q).1 * v * g := by rw [Int.mul_assoc, Int.mul_comm v g, ← Int.mul_assoc, ← e1]
        have f2 : u * q = u * (lo p q).2 * g := by rw [Int.mul_assoc, ← e2]
        rw [f1, f2] at hm
        exact Int.lt_of_mul_lt_mul_right hm (by omega)
    exact hl _ b1 h1 (stop_of hy hv m2).2
  · have h2 : (lo p q).2 = q := by omega
    have h3 : g = 1 := by
      rw [h2] at e2
      have : q * g = q * 1 := by omega
      exact Int.eq_of_mul_eq_mul_left (by omega) this
    rw [h3, Int.mul_one] at e1
    rw [h2, ← e1] at b5
    exact b5
theorem mid_red {x y u v p q : Int} (hy : 0 < y) (hv : 0 < v) : Mid (lo x y).1 (lo x y).2 (lo u v).1 (lo u v).2 p q ↔ Mid x y u v p q := by
  obtain ⟨g, hg, e1, e2⟩ := lo_fac (x := x) hy
  obtain ⟨h, hh, e3, e4⟩ := lo_fac (x := u) hv
  have k1 : x * q < p * y ↔ (lo x y).1 * q < p * (lo x y).2 := by
    have f1 : x * q = (lo x y).1 * q * g := by rw [Int.mul_assoc, Int.mul_comm q g, ← Int.mul_assoc, ← e1]
    have f2 : p * y = p * (lo x y).2 * g := by rw [Int.mul_assoc, ← e2]
    rw [f1, f2]
    exact lt_same hg
  have k2 : p * v < u * q ↔ p * (lo u v).2 < (lo u v).1 * q := by
    have f1 : u * q = (lo u v).1 * q * h := by rw [Int.mul_assoc, Int.mul_comm q h, ← Int.mul_assoc, ← e3]
    have f2 : p * v = p * (lo u v).2 * h := by rw [Int.mul_assoc, ← e4]
    rw [f1, f2]
    exact lt_same hh
  exact ⟨fun m => ⟨m.q1, m.p0, m.p1, k1.mpr m.lo, k2.mpr m.hi⟩, fun m => ⟨m.q1, m.p0, m.p1, k1.mp m.lo, k2.mp m.hi⟩⟩
structure SimpleOf (l : List Bool) (p q A : Int) : Prop where
  rule : IsRule p q (lo A q).1 (lo A q).2
  q2 : q ≤ 2 * l.length
  gives : ∀ i : Nat, i ≤ l.length → tf p q A i = cnt l i
  mid : ∀ x y u v, LowOf (cnt l) l.length x y → HighOf (cnt l) l.length u v → Mid x y u v p q ∧ ∀ p' q', Mid x y u v p' q' → q ≤ q'
  start : StartOf (cnt l) l.length p q A
  a0 : 0 ≤ A
  a1 : A < q
theorem days_of_cnt {l : List Bool} {p q a b : Int} (h : ∀ i : Nat, i ≤ l.length → tot p q a b i = cnt l i) : days p q a b 0 l.length = l := by
  apply List.ext_getElem
  · simp [days]
  · intro i h1 h2
    simp only [days, List.getElem_map, List.getElem_range, Int.zero_add]
    unfold dut
    have e1 := h i (by omega)
    have e2 := h (i + 1) (by omega)
    rw [show ((i : Int) + 1) = ((i + 1 : Nat) : Int) by omega, e1, e2]
    unfold cnt
    rw [List.take_succ, List.count_append, List.getElem?_eq_getElem h2]
    cases l[i] <;> simp <;> omega
theorem SimpleOf.days {l : List Bool} {p q A : Int} (s : SimpleOf l p q A) : Q.days p q (lo A q).1 (lo A q).2 0 l.length = l := days_of_cnt fun i hi => by
  rw [tot_kk s.rule, kk_lo (by have := s.rule.q1; omega)]
  exact s.gives i hi
end
end Q
set_option maxHeartbeats 1000000
namespace Q
def rc (l : List Bool) (i : Nat) : Int := cnt (l ++ l) i
def BalR (l : List Bool) : Prop := ∀ i j a, i < l.length → j < l.length → 1 ≤ a → a < l.length → gn (rc l) i a ≤ gn (rc l) j a + 1
theorem rc_lo {l : List Bool} {i : Nat} (h : i ≤ l.length) : rc l i = cnt l i := by
  unfold rc cnt
  rw [List.take_append_of_le_length h]
theorem rc_hi {l : List Bool} {i : Nat} : rc l (l.length + i) = cnt l l.length + cnt l i := by
  unfold rc cnt
  rw [List.take_length_add_append, List.count_append, List.take_length]
  push_cast
  rfl
def sumN (f : Nat → Int) : Nat → Int
  | 0 => 0
  | n + 1 => sumN f n + f n
theorem sum_sub (f g : Nat → Int) : ∀ n, sumN (fun i => f i - g i) n = sumN f n - sumN g n
  | 0 => rfl
  | n + 1 => by simp only [sumN, sum_sub f g n]; omega
theorem sum_shift (f : Nat → Int) : ∀ n, sumN (fun i => f (i + 1)) n = sumN f n + f n - f 0
  | 0 => by simp [sumN]
  | n + 1 => by
    simp only [sumN]
    rw [sum_shift f n]
    omega
theorem sum_le {f g : Nat → Int} : ∀ n, (∀ i, i < n → f i ≤ g i) → sumN f n ≤ sumN g n
  | 0, _ => Int.le_refl _
  | n + 1, h => by
    simp only [sumN]
    have := sum_le n fun i hi => h i (by omega)
    have := h n (by omega)
    omega
theorem sum_const (c : Int) : ∀ n : Nat, sumN (fun _ => c) n = n * c
  | 0 => by simp [sumN]
  | n + 1 => by
    simp only [sumN]
    rw [sum_const c n]
    push_cast
    rw [Int.add_mul, Int.one_mul]
theorem sum_gn (l : List Bool) : ∀ a, a ≤ l.length → sumN (fun i => gn (rc l) i a) l.length = a * cnt l l.length
  | 0, _ => by
    have : (fun i => gn (rc l) i 0) = fun _ => (0 : Int) := by
      funext i
      simp [gn]
    rw [this, sum_const]
    simp
  | a + 1, h => by
    have ih := sum_gn l a (by omega)
    have e1 : sumN (fun i => gn (rc l) i (a + 1)) l.length = sumN (fun i => rc l (i + 1 + a)) l.length - sumN (rc l) l.length := by
      rw [← sum_sub]
      congr 1
      funext i
      unfold gn
      rw [show i + (a + 1) = i + 1 + a by omega]
    have e2 : sumN (fun i => gn (rc l) i a) l.length = sumN (fun i => rc l (i + a)) l.length - sumN (rc l) l.length := by
      rw [← sum_sub]
      rfl
    have e3 := sum_shift (fun i => rc l (i + a)) l.length
    have e4 : rc l (l.length + a) = cnt l l.length + cnt l a := rc_hi
    have e5 : rc l (0 + a) = cnt l a := by rw [Nat.zero_add]; exact rc_lo (by omega)
    rw [e1, e3, e4, e5]
    rw [e2] at ih
    push_cast
    rw [Int.add_mul, Int.one_mul]
    omega
theorem gn_near {l : List Bool} (B : BalR l) {i a : Nat} (hi : i < l.length) (h1 : 1 ≤ a) (h2 : a < l.length) : l.length * gn (rc l) i a - a * cnt l l.length ≤ l.length - 1 ∧ a * cnt l l.length - l.length * gn (rc l) i a ≤ l.length - 1 := by
  have s := sum_gn l a (by omega)
  -- the place itself gives nothing
  have key : ∀ (f : Nat → Int) (n : Nat), i < n → (∀ j, j < n → f j ≤ 1) → f i = 0 → sumN f n ≤ n - 1 := by
    intro f n
    induction n with
    | zero => intro h; omega
    | succ n ih =>
      intro hn hf h0
      simp only [sumN]
      by_cases hin : i = n
      · subst hin
        have := sum_le (f := f) (g := fun _ => 1) i fun j hj => hf j (by omega)
        rw [sum_const] at this
        push_cast
        omega
      · have := ih (by omega) (fun j hj => hf j (by omega)) h0
        have := hf n (by omega)
        push_cast
        omega
  have k1 := key (fun j => gn (rc l) i a - gn (rc l) j a) l.length hi (fun j hj => by have := B i j a hi hj h1 h2; omega) (by omega)
  have k2 := key (fun j => gn (rc l) j a - gn (rc l) i a) l.length hi (fun j hj => by have := B j i a hj hi h1 h2; omega) (by omega)
  rw [sum_sub, sum_const, s] at k1
  rw [sum_sub, sum_const, s] at k2
  exact ⟨k1, k2⟩
def mech (n : Nat) (m k : Int) : List Bool := (List.range n).map fun (j : Nat) => decide (tf m n k j < tf m n k (j + 1))
theorem mech_len (n : Nat) (m k : Int) : (mech n m k).length = n := by simp [mech]
theorem row_of_cnt {l : List Bool} {m k : Int} (h : ∀ i : Nat, i ≤ l.length → tf m l.length k i = cnt l i) : mech l.length m k = l := by
  apply List.ext_getElem
  · simp [mech]
  · intro i h1 h2
    simp only [mech, List.getElem_map, List.getElem_range]
    have e1 := h i (by omega)
    have e2 := h (i + 1) (by omega)
    rw [show ((i : Int) + 1) = ((i + 1 : Nat) : Int) by omega, e1, e2]
    unfold cnt
    rw [List.take_succ, List.count_append, List.getElem?_eq_getElem h2]
    cases l[i] <;> simp <;> omega
theorem round_mech {l : List Bool} (h0 : 0 < l.length) (B : BalR l) : ∃ k : Int, 0 ≤ k ∧ k < l.length ∧ (∀ i : Nat, i ≤ l.length → tf (cnt l l.length) l.length k i = cnt l i) ∧ ∃ i : Nat, i < l.length ∧ k = l.length * cnt l i - i * cnt l l.length := by
  have c0 : cnt l 0 = 0 := (step01 l).1
  obtain ⟨m, hm⟩ : ∃ m, m = cnt l l.length := ⟨_, rfl⟩
  obtain ⟨k, hk⟩ : ∃ k, k = stA (cnt l) m l.length (l.length + 1) := ⟨_, rfl⟩
  obtain ⟨k0, k1⟩ := stA_ge (cnt l) m l.length (l.length + 1)
  have k2 := stA_at (cnt l) m l.length (l.length + 1)
  rw [← hk] at k0 k1 k2
  rw [← hm]
  have at_ : ∃ i : Nat, i < l.length ∧ k = l.length * cnt l i - i * m := by
    rcases k2 with z | ⟨i, hi, z⟩
    · exact ⟨0, h0, by rw [z, c0]; simp⟩
    · by_cases hn : i = l.length
      · refine ⟨0, h0, ?_⟩
        rw [z, hn, ← hm, c0, Int.mul_comm]
        simp
      · exact ⟨i, by omega, by rw [z, Int.mul_comm]⟩
  -- any two places
  have near : ∀ i j : Nat, i ≤ l.length → j ≤ l.length → l.length * cnt l i - i * m - (l.length * cnt l j - j * m) ≤ l.length - 1 := by
    intro i j hi hj
    have nl : (1 : Int) ≤ l.length := by omega
    by_cases hij : j < i
    · by_cases hfull : i - j = l.length
      · obtain rfl : j = 0 := by omega
        obtain rfl : i = l.length := by omega
        rw [c0, ← hm]
        have : (l.length : Int) * m - l.length * m = 0 := by omega
        simp
        omega
      · have := (gn_near B (i := j) (a := i - j) (by omega) (by omega) (by omega)).1
        unfold gn at this
        rw [show j + (i - j) = i by omega, rc_lo hi, rc_lo hj, ← hm, Int.mul_sub] at this
        rw [show ((i - j : Nat) : Int) = (i : Int) - j by omega, Int.sub_mul] at this
        omega
    · by_cases he : i = j
      · subst he
        omega
      · by_cases hfull : j - i = l.length
        · obtain rfl : i = 0 := by omega
          obtain rfl : j = l.length := by omega
          rw [c0, ← hm]
          simp
          omega
        · have := (gn_near B (i := i) (a := j - i) (by omega) (by omega) (by omega)).2
          unfold gn at this
          rw [show i + (j - i) = j by omega, rc_lo hi, rc_lo hj, ← hm, Int.mul_sub] at this
          rw [show ((j - i : Nat) : Int) = (j : Int) - i by omega, Int.sub_mul] at this
          omega
  obtain ⟨i0, hi0, ek⟩ := at_
  have up : ∀ i : Nat, i ≤ l.length → k ≤ l.length * cnt l i - i * m + (l.length - 1) := fun i hi => by
    have := near i0 i (by omega) hi
    omega
  refine ⟨k, k0, ?_, fun i hi => ?_, i0, hi0, ek⟩
  · have := up 0 (by omega)
    rw [c0] at this
    simp at this
    omega
  · have h1 := k1 i (by omega)
    have h2 := up i hi
    unfold tf
    rw [Int.mul_comm (cnt l i)] at h1
    have hn : (0 : Int) < l.length := by omega
    apply Int.le_antisymm
    · apply Int.le_of_lt_add_one
      rw [Int.ediv_lt_iff_lt_mul hn, Int.add_mul, Int.one_mul, Int.mul_comm (cnt l i)]
      omega
    · rw [Int.le_ediv_iff_mul_le hn, Int.mul_comm (cnt l i)]
      omega
section
variable {n : Nat} {m k : Int}
theorem tfr_turn (hn : 0 < n) (q : Int) (j : Int) : tf m n k (n * q + j) = q * m + tf m n k j := by
  unfold tf
  have hn' : (n : Int) ≠ 0 := by omega
  rw [show ((n : Int) * q + j) * m + k = (j * m + k) + n * (q * m) by rw [Int.add_mul, Int.mul_assoc]; omega]
  rw [Int.add_mul_ediv_left _ _ hn']
  omega
theorem tfr_start (hn : 0 < n) (t : Int) (j : Int) : tf m n ((k + t * m) % n) j = tf m n k (t + j) - (k + t * m) / n := by
  unfold tf
  have hn' : (n : Int) ≠ 0 := by omega
  have e := Int.mul_ediv_add_emod (k + t * m) n
  rw [show (t + j) * m + k = (j * m + (k + t * m) % n) + n * ((k + t * m) / n) by rw [Int.add_mul]; omega]
  rw [Int.add_mul_ediv_left _ _ hn']
  omega
theorem rot_mech (hn : 0 < n) (t : Nat) : rot (mech n m k) t = mech n m ((k + t * m) % n) := by
  apply List.ext_getElem
  · simp [rot, mech]
  · intro j h1 h2
    have hj : j < n := by simpa [mech] using h2
    have hr : (t + j) % n < n := Nat.mod_lt _ hn
    have e0 : (mech n m k).getD ((t + j) % n) false = decide (tf m n k (((t + j) % n : Nat)) < tf m n k ((((t + j) % n : Nat) : Int) + 1)) := by
      unfold mech
      rw [List.getD_eq_getElem?_getD, List.getElem?_map, List.getElem?_range hr]
      rfl
    have e1 : (rot (mech n m k) t)[j] = (mech n m k).getD ((t + j) % n) false := by simp [rot, mech_len]
    have e2 : (mech n m ((k + t * m) % n))[j] = decide (tf m n ((k + t * m) % n) j < tf m n ((k + t * m) % n) ((j : Int) + 1)) := by simp [mech]
    rw [e1, e2, e0, tfr_start hn, tfr_start hn]
    have d : ((t : Int) + j) = n * (((t + j) / n : Nat) : Int) + (((t + j) % n : Nat) : Int) := by
      have := Nat.div_add_mod (t + j) n
      have h3 : ((n * ((t + j) / n) + (t + j) % n : Nat) : Int) = ((t + j : Nat) : Int) := by rw [this]
      push_cast at h3 ⊢
      omega
    have e3 := tfr_turn (m := m) (k := k) hn (((t + j) / n : Nat) : Int) (((t + j) % n : Nat) : Int)
    have e4 := tfr_turn (m := m) (k := k) hn (((t + j) / n : Nat) : Int) ((((t + j) % n : Nat) : Int) + 1)
    rw [← d] at e3
    rw [show (n : Int) * (((t + j) / n : Nat) : Int) + ((((t + j) % n : Nat) : Int) + 1) = (t : Int) + (j + 1) by omega] at e4
    rw [e3, e4]
    rw [decide_eq_decide]
    omega
theorem tfr_step (hn : 0 < n) (h0 : 0 ≤ m) (h1 : m ≤ n) (i : Int) : tf m n k i ≤ tf m n k (i + 1) ∧ tf m n k (i + 1) ≤ tf m n k i + 1 := by
  have hq : (0 : Int) < n := by omega
  unfold tf
  rw [Int.add_mul, Int.one_mul, show i * m + m + k = i * m + k + m by omega]
  generalize i * m + k = x
  constructor
  · exact Int.ediv_le_ediv hq (by omega)
  · have h2 : (x + m) / n ≤ (x + n) / n := Int.ediv_le_ediv hq (by omega)
    have h3 : (x + n) / n = x / n + 1 := by
      rw [Int.add_ediv_of_dvd_right (a := x) (b := (n : Int)) (c := n) ⟨1, by omega⟩, Int.ediv_self (by omega)]
    omega
theorem cnt_mech (hn : 0 < n) (h0 : 0 ≤ m) (h1 : m ≤ n) (k0 : 0 ≤ k) (k1 : k < n) : ∀ i : Nat, i ≤ n → cnt (mech n m k) i = tf m n k i := by
  have z0 : tf m n k 0 = 0 := by
    unfold tf
    rw [Int.zero_mul, Int.zero_add]
    exact Int.ediv_eq_zero_of_lt k0 k1
  intro i
  induction i with
  | zero => intro _; rw [show ((0 : Nat) : Int) = 0 by rfl, z0]; rfl
  | succ i ih =>
    intro hi
    have e := ih (by omega)
    have hl : i < (mech n m k).length := by rw [mech_len]; omega
    have e2 : cnt (mech n m k) (i + 1) = cnt (mech n m k) i + (if (mech n m k)[i] then 1 else 0) := by
      unfold cnt
      rw [List.take_succ, List.count_append, List.getElem?_eq_getElem hl]
      cases (mech n m k)[i] <;> simp
    have e3 : (mech n m k)[i] = decide (tf m n k i < tf m n k ((i : Int) + 1)) := by simp [mech]
    have up := tfr_step (k := k) hn h0 h1 (i : Int)
    rw [e2, e3, e]
    push_cast
    by_cases hd : tf m n k i < tf m n k ((i : Int) + 1)
    · rw [decide_eq_true hd, if_pos rfl]
      omega
    · rw [decide_eq_false hd, if_neg (by decide)]
      omega
theorem tfr_mono (hn : 0 < n) {k k' : Int} (h : k ≤ k') (i : Int) : tf m n k i ≤ tf m n k' i := by
  unfold tf
  exact Int.ediv_le_ediv (by omega) (by omega)
end
theorem lex_le : ∀ (a b : List Bool), a.length = b.length → (∀ i, i ≤ a.length → cnt a i ≤ cnt b i) → a.map bit ≤ b.map bit
  | [], [], _, _ => List.le_refl _
  | x :: a, y :: b, hl, h => by
    have c1 : ∀ (z : Bool) (l : List Bool) (i : Nat), cnt (z :: l) (i + 1) = cnt l i + (if z then 1 else 0) := fun z l i => by
      unfold cnt
      rw [List.take_succ_cons, List.count_cons]
      cases z <;> simp
    have h1 := h 1 (by simp)
    rw [c1, c1] at h1
    have z0 : cnt a 0 = 0 := rfl
    have z1 : cnt b 0 = 0 := rfl
    rw [z0, z1] at h1
    rw [List.map_cons, List.map_cons]
    by_cases hxy : x = y
    · subst hxy
      have ih := lex_le a b (by simpa using hl) fun i hi => by
        have := h (i + 1) (by simp; omega)
        rw [c1, c1] at this
        omega
      exact List.cons_le_cons_iff.mpr (.inr ⟨rfl, ih⟩)
    · have : x = false ∧ y = true := by
        cases x <;> cases y <;> simp at h1 hxy ⊢
      obtain ⟨rfl, rfl⟩ := this
      exact List.cons_le_cons_iff.mpr (.inl (by decide))
theorem cnt_nn (l : List Bool) (i : Nat) : 0 ≤ cnt l i := by unfold cnt; omega
theorem cnt_le_len (l : List Bool) : cnt l l.length ≤ l.length := by
  unfold cnt
  have := List.count_le_length (a := true) (l := l.take l.length)
  rw [List.take_length] at *
  omega
structure LeastOf (l : List Bool) : Prop where
  at_ : ∃ t, t < l.length ∧ rot l t = mech l.length (cnt l l.length) 0
  back : ∃ t, t < l.length ∧ rot (mech l.length (cnt l l.length) 0) t = l
  le : ∀ t, (mech l.length (cnt l l.length) 0).map bit ≤ (rot l t).map bit
theorem rot_zero (l : List Bool) (h : 0 < l.length) : rot l 0 = l := by
  rw [← rot_eq l h]
  simp
theorem least_of {l : List Bool} (h0 : 0 < l.length) (B : BalR l) : LeastOf l := by
  obtain ⟨k, k0, k1, hc, i, hi, ek⟩ := round_mech h0 B
  have hl := row_of_cnt hc
  have m0 := cnt_nn l l.length
  have m1 := cnt_le_len l
  obtain ⟨m, hm⟩ : ∃ m, m = cnt l l.length := ⟨_, rfl⟩
  rw [← hm] at hl ek m0 m1 hc
  obtain ⟨n, hn⟩ : ∃ n, n = l.length := ⟨_, rfl⟩
  have zr : (k + i * m) % n = 0 := by
    rw [ek, ← hn, show (n : Int) * cnt l i - i * m + i * m = n * cnt l i by omega]
    exact Int.mul_emod_right _ _
  have r0 : rot l i = mech n m 0 := by
    rw [← hl, ← hn, rot_mech (by omega), zr]
  refine ⟨⟨i, hi, by rw [← hm, ← hn]; exact r0⟩, ⟨(l.length - i) % l.length, Nat.mod_lt _ h0, ?_⟩, fun t => ?_⟩
  · rw [← hm, ← hn, ← r0]
    rw [rot_rot l _ _ h0]
    by_cases hi0 : i = 0
    · subst hi0
      rw [hn, Nat.sub_zero, Nat.mod_self, Nat.add_zero, Nat.zero_mod]
      exact rot_zero l h0
    · rw [hn, Nat.mod_eq_of_lt (show l.length - i < l.length by omega), show i + (l.length - i) = l.length by omega, Nat.mod_self]
      exact rot_zero l h0
  · have e : rot l t = mech n m ((k + t * m) % n) := by
      conv => lhs; rw [← hl, ← hn]
      rw [rot_mech (by omega)]
    rw [← hm, ← hn, e]
    have b0 := Int.emod_nonneg (k + t * m) (show (n : Int) ≠ 0 by omega)
    have b1 := Int.emod_lt_of_pos (k + t * m) (show (0 : Int) < n by omega)
    refine lex_le _ _ (by simp [mech_len]) fun j hj => ?_
    rw [mech_len] at hj
    rw [cnt_mech (by omega) m0 (by omega) (by omega) (by omega) j hj, cnt_mech (by omega) m0 (by omega) b0 b1 j hj]
    exact tfr_mono (by omega) b0 _
theorem days_mech {n : Nat} {m : Int} (hn : 0 < n) : days (lo m n).1 (lo m n).2 0 1 0 n = mech n m 0 := by
  have hn' : (0 : Int) < n := by omega
  obtain ⟨g, hg, e1, e2⟩ := lo_fac (x := m) hn'
  have y1 := lo_y1 (x := m) hn'
  generalize (lo m n).1 = P at *
  generalize (lo m n).2 = Q at *
  have ht : ∀ i : Int, tot P Q 0 1 i = tf m n 0 i := fun i => by
    unfold tot tf
    rw [Int.mul_one, Int.zero_mul, Int.add_zero, Int.mul_one, Int.add_zero, e1, e2, ← Int.mul_assoc]
    rw [Int.mul_ediv_mul_of_pos_left _ _ hg]
  unfold days mech
  congr 1
  funext j
  unfold dut
  rw [ht, ht, Int.zero_add]
end Q
namespace Q
open PySem L2
section
variable {n k : Nat} {S : Store}
theorem for_counts (c : CallT) (X : D) (l : List Bool) (hl : l.length ≤ 10000) : ∃ u, forL (.nm 2) (w_law_counts_v2_0 c) (l.map fun b => .str (sgn b)) [some X, some (.ptr S.L.length), none] (S.new [.int 0]) = some (.nx [some X, some (.ptr S.L.length), u], S.new ((cnts l).map .int)) := by
  have e := for_pre (p := .nm 2) (b := w_law_counts_v2_0 c) (fun q => S.new ((cnts (q.map oneD)).map .int)) (fun o => [some X, some (.ptr S.L.length), o]) (l.map fun b => .str (sgn b)) [] (fun d _ o => by simp) (fun q d r hq => by
    obtain ⟨b, hb⟩ : ∃ b, d = .str (sgn b) := by
      have : d ∈ l.map fun b => D.str (sgn b) := by rw [hq]; simp
      obtain ⟨b, _, rfl⟩ := List.mem_map.mp this
      exact ⟨b, rfl⟩
    subst hb
    have hql : q.length ≤ 10000 := by
      have := congrArg List.length hq
      simp at this
      omega
    simp only [List.nil_append, List.map_append, List.map_cons, List.map_nil]
    have e1 : oneD (.str (sgn b)) = b := sgn_is1 b
    rw [e1, cnts_app, List.map_append, List.map_singleton]
    have hx := ix_last (S := S) (xs := (cnts (q.map oneD)).map .int) (m := q.length) (d := .int (cnt (q.map oneD) q.length)) rfl (by simp [cnts_len]) (by
      have := cnts_last (q.map oneD)
      rw [List.length_map] at this
      rw [List.getElem?_map, this]
      rfl)
    have ap := fun i => append_at (S := S) (j := S.L.length) (xs := (cnts (q.map oneD)).map .int) (d := .int i) rfl (by simp [cnts_len]; omega) rfl
    have il := isLst_at (S := S) (j := S.L.length) (xs := (cnts (q.map oneD)).map .int) rfl
    generalize (cnts (q.map oneD)).map D.int = xs at hx ap il
    cases b <;> simp [w_law_counts_v2_0, il, hx, ap, List.length_map]) none
  simp only [List.nil_append, List.map_nil, ones, cnts_nil, List.map_singleton] at e
  exact ⟨_, e⟩
theorem c_lcounts2 (l : List Bool) (hl : l.length ≤ 5000) : callN Lib (n + 1) 269 [.str (wrd l)] S = .ok (.lst ((cnts (l ++ l)).map .int)) S := by
  rw [callN_eq (d := f_law_counts_v2) rfl]
  generalize callN Lib n = c
  obtain ⟨u, e⟩ := for_counts (S := S) c (.str (wrd l)) (l ++ l) (by simp; omega)
  have e2 : runFn f_law_counts_v2 c [.str (wrd l)] S = .ok (.lst ((cnts (l ++ l)).map .int)) ((S.dead).cut S.L.length) := by
    refine run_cut rfl ?_ (flats_ints _)
    have fz := frz_at (S := S) (i := 1) (s := [some (.str (wrd l)), some (.ptr S.L.length), u]) (xs := (cnts (l ++ l)).map .int) rfl rfl
    have ad := oAdd_wrd (S := S.new [.int 0]) (l := l) (m := l) (by omega)
    have sq2 : sSeq (e2 oAdd (eV 0) (eV 0)) [some (.str (wrd l)), some (.ptr S.L.length), none] (S.new [.int 0]) = .ok ((l ++ l).map fun b => .str (sgn b)) (S.new [.int 0]) := sseq_wrd (by simp [ad])
    generalize ((l ++ l).map fun b => D.str (sgn b)) = Z at *
    generalize (cnts (l ++ l)).map D.int = Y at *
    simp [b_law_counts_v2, sq2, e, fz]
  rw [e2, dead_cut rfl]
end
end Q
set_option maxHeartbeats 1000000
namespace Q
open PySem L2
def ahead (l : List Bool) (a : Nat) : List Bool := (l ++ l).take (l.length + a)
theorem ahead_len {l : List Bool} {a : Nat} (h : a ≤ l.length) : (ahead l a).length = l.length + a := by simp [ahead]; omega
def roundP (l : List Bool) : Option (Nat × Nat × Nat) := (List.range (l.length - 1)).findSome? fun a => (pairOf (cnts (ahead l a)) (a + 1)).map fun ij => (ij.1, ij.2, a + 1)
theorem cnt_ahead {l : List Bool} {a i : Nat} (h : i ≤ l.length + a) : cnt (ahead l a) i = rc l i := by
  unfold ahead rc cnt
  rw [List.take_take, Nat.min_eq_left h]
theorem cnts_take (L : List Bool) (m : Nat) (h : m ≤ L.length) : (cnts L).take (m + 1) = cnts (L.take m) := by
  unfold cnts
  rw [← List.map_take, List.take_range, Nat.min_eq_left (by omega), List.length_take, Nat.min_eq_left h]
  refine List.map_congr_left fun i hi => ?_
  have := List.mem_range.mp hi
  unfold cnt
  rw [List.take_take, Nat.min_eq_left (by omega)]
theorem roundP_none {l : List Bool} : roundP l = none ↔ BalR l := by
  unfold roundP
  rw [List.findSome?_eq_none_iff]
  constructor
  · intro h i j a hi hj h1 h2
    have := h (a - 1) (List.mem_range.mpr (by omega))
    rw [show a - 1 + 1 = a by omega, Option.map_eq_none_iff] at this
    have al := ahead_len (l := l) (a := a - 1) (by omega)
    have := (pairOf_none (by omega)).mp this i j (by omega) (by omega)
    unfold gn at this ⊢
    rwa [cnt_ahead (by omega), cnt_ahead (by omega), cnt_ahead (by omega), cnt_ahead (by omega)] at this
  · intro B a ha
    have := List.mem_range.mp ha
    have al := ahead_len (l := l) (a := a) (by omega)
    rw [Option.map_eq_none_iff, pairOf_none (by omega)]
    intro i j hi hj
    have := B i j (a + 1) (by omega) (by omega) (by omega) (by omega)
    unfold gn at this ⊢
    rwa [cnt_ahead (by omega), cnt_ahead (by omega), cnt_ahead (by omega), cnt_ahead (by omega)]
def lenR (l : List Bool) : D → Option D
  | .int a => match pairOf (cnts (ahead l (a.toNat - 1))) a.toNat with
    | some (i, j) => some (.tup [.int i, .int j, .int a])
    | none => none
  | _ => none
theorem find_lenR (l : List Bool) : (rngL 1 (l.length - 1)).findSome? (lenR l) = match roundP l with | some x => some (tripD (some x)) | none => none := by
  unfold rngL roundP
  rw [findSome_map]
  generalize List.range (l.length - 1) = r
  induction r with
  | nil => rfl
  | cons a r ih =>
    rw [List.findSome?_cons, List.findSome?_cons]
    have e : (1 + (a : Int)).toNat = a + 1 := by omega
    simp only [Function.comp, lenR, e, Nat.add_sub_cancel]
    cases h : pairOf (cnts (ahead l a)) (a + 1) with
    | some ij =>
      obtain ⟨i, j⟩ := ij
      simp only [Option.map_some, tripD]
      rw [show (((a + 1 : Nat)) : Int) = 1 + (a : Int) by omega]
    | none =>
      simp only [Option.map_none]
      exact ih
section
variable {n k : Nat} {S : Store}
theorem cutU_lst (xs : List D) (m : Nat) : oCut (.lst xs) none (some (m : Int)) S = some (.lst (xs.take m), S) := by
  unfold oCut cutD
  simp only [HT.sIx_nat, HT.sIx_none, Nat.sub_zero, List.drop_zero]
  congr 3
  by_cases h : m ≤ xs.length
  · rw [Nat.min_eq_left h]
  · rw [Nat.min_eq_right (by omega), List.take_length, List.take_of_length_le (by omega)]
theorem c_pair_round (l : List Bool) (hl : l.length ≤ 2000) : callN Lib (n + 2) 68 [.str (wrd l)] S = .ok (tripD (roundP l)) S := by
  have e1 : ∀ S, callN Lib (n + 1) 16 [.str (wrd (l ++ l))] S = .ok (.lst ((cnts (l ++ l)).map .int)) S := fun S => c_sums_of (n := n) (l ++ l) (by simp; omega)
  have e2 : ∀ (a : Nat) S, a < l.length → callN Lib (n + 1) 20 [.lst ((cnts (ahead l a)).map .int), .int ((a + 1 : Nat) : Int)] S = .ok (pairD (pairOf (cnts (ahead l a)) (a + 1))) S := fun a S h => by
    have al := ahead_len (l := l) (a := a) (by omega)
    exact c_pair_of_length (n := n) (cnts (ahead l a)) (a + 1) (by rw [cnts_len]; omega) (by rw [cnts_len]; omega)
  have e3 : ∀ (a : Nat) S, a < l.length → oCut (.lst ((cnts (l ++ l)).map .int)) none (some ((l.length : Int) + (1 + a))) S = some (.lst ((cnts (ahead l a)).map .int), S) := fun a S h => by
    have := cutU_lst (S := S) ((cnts (l ++ l)).map .int) (l.length + a + 1)
    rw [← List.map_take, cnts_take _ _ (by simp; omega)] at this
    rw [show ((l.length : Int) + (1 + a)) = ((l.length + a + 1 : Nat) : Int) by omega]
    exact this
  rw [callN_eq (d := f_pair_round) rfl]
  generalize callN Lib (n + 1) = c at e1 e2
  refine run_keep rfl ?_
  have oL := fun S => oLen_wrd (S := S) (l := l) (by omega)
  have ad := oAdd_wrd (S := S) (l := l) (m := l) (by omega)
  generalize hC : D.lst ((cnts (l ++ l)).map .int) = C at e1 e3
  have fd := for_findD (S := S) (p := .nm 2) (b := w_pair_round_0 c) (lenR l) (fun s => ∃ x2 x3, s = [some (.str (wrd l)), some C, x2, x3]) (rngL 1 (l.length - 1)) (fun d hd s ⟨x2, x3, hs⟩ => by
    subst hs
    obtain ⟨a, ha, rfl⟩ := rngL_mem hd
    refine ⟨_, rfl, ?_⟩
    have e : (1 + (a : Int)).toNat = a + 1 := by omega
    have e4 := e2 a S (by omega)
    have e5 := e3 a S (by omega)
    rw [show (((a + 1 : Nat)) : Int) = 1 + (a : Int) by omega] at e4
    simp only [lenR, e, Nat.add_sub_cancel]
    generalize D.lst ((cnts (ahead l a)).map .int) = E at *
    cases h : pairOf (cnts (ahead l a)) (a + 1) with
    | some ij =>
      obtain ⟨i, j⟩ := ij
      rw [h] at e4
      simp [w_pair_round_0, oL, eCutU, ePart, partK, e5, e4, pairD]
    | none =>
      rw [h] at e4
      simp [w_pair_round_0, oL, eCutU, ePart, partK, e5, e4, pairD]) [some (.str (wrd l)), some C, none, none] ⟨_, _, rfl⟩
  rw [find_lenR] at fd
  have rg := iRng2_1 (m := l.length) (by omega)
  cases h : roundP l with
  | some x =>
    rw [h] at fd
    simp only at fd
    simp [b_pair_round, ad, e1, oL, rg, fd]
  | none =>
    rw [h] at fd
    obtain ⟨s', fd, -⟩ := fd
    simp [b_pair_round, ad, e1, oL, rg, fd, tripD]
theorem c_round_pair {l : List Bool} (h0 : 0 < l.length) (h1 : l.length ≤ 500) : callN Lib (n + 4) 267 [.str (wrd l)] S = .ok (tripD (roundP l)) S := by
  have e1 := c_check_row (n := n) (S := S) (.str (wrd l)) (thing_wrd (by omega)) (row_wrd h0 h1)
  have e2 := c_pair_round (n := n + 1) (S := S) l (by omega)
  rw [callN_eq (d := f_round_pair) rfl]
  generalize callN Lib (n + 3) = c at *
  refine run_keep rfl ?_
  simp [b_round_pair, e1, e2]
theorem c_round_pair_no {d : D} (h : thingOk d = true) (hr : rowD d = false) : callN Lib (n + 4) 267 [d] S = .ex ⟨4, []⟩ S := by
  have e1 := c_check_row_no (n := n) (S := S) d h hr
  rw [callN_eq (d := f_round_pair) rfl]
  generalize callN Lib (n + 3) = c at *
  refine run_ex (s' := [some d]) rfl ?_
  simp [b_round_pair, e1]
end
end Q
set_option maxHeartbeats 1000000
namespace Q
open PySem L2
theorem find_range {β : Type} (f : Nat → Option β) (i0 : Nat) (v : β) : ∀ n, i0 < n → (∀ i, i < i0 → f i = none) → f i0 = some v → (List.range n).findSome? f = some v
  | 0, h, _, _ => by omega
  | n + 1, h, hn, hv => by
    rw [List.range_succ, List.findSome?_append]
    by_cases e : i0 = n
    · subst e
      rw [List.findSome?_eq_none_iff.mpr fun x hx => hn x (List.mem_range.mp hx)]
      simp [hv]
    · rw [find_range f i0 v n (by omega) hn hv]
      rfl
def fewF (ns : List Int) (len : Int) : D → Option D
  | .int i => match idxs (fun y => decide (2 ≤ ns.getD i.toNat 0 - y)) ns with
    | j :: _ => some (.tup [.int i, .int j, .int len])
    | [] => none
  | _ => none
theorem find_few {ts : List Int} {len : Nat} (hl : len < ts.length) (h : ¬ maxI (nums ts len) - minI (nums ts len) < 2) : ∃ i j : Nat, pairOf ts len = some (i, j) ∧ (rngL 0 (ts.length - len)).findSome? (fewF (nums ts len) len) = some (.tup [.int i, .int j, .int len]) := by
  obtain ⟨⟨r1, h1, h2⟩, h3⟩ := pairOf_ex hl h
  obtain ⟨r2, h4, h5⟩ := h3 _ h2
  have e0 : pairOf ts len = some (fstI (fun x => decide (2 ≤ x - minI (nums ts len))) (nums ts len), fstI (fun y => decide (2 ≤ (nums ts len).getD (fstI (fun x => decide (2 ≤ x - minI (nums ts len))) (nums ts len)) 0 - y)) (nums ts len)) := by unfold pairOf; rw [if_neg h]
  refine ⟨_, _, e0, ?_⟩
  generalize hi : fstI (fun x => decide (2 ≤ x - minI (nums ts len))) (nums ts len) = i at *
  have hne : 0 < (nums ts len).length := by have := h2.lt; omega
  obtain ⟨b1, b2⟩ := minI_mem hne
  unfold rngL
  rw [findSome_map]
  refine find_range _ i _ _ (by have := h2.lt; rw [nums_len] at this; exact this) (fun a ha => ?_) ?_
  · have hp := h2.fst a ha
    rw [decide_eq_false_iff_not] at hp
    have : idxs (fun y => decide (2 ≤ (nums ts len).getD a 0 - y)) (nums ts len) = [] := by
      unfold idxs
      rw [List.filter_eq_nil_iff]
      intro b hb
      have hb' := List.mem_range.mp hb
      have hm : (nums ts len).getD b 0 ∈ nums ts len := by
        rw [List.getD_eq_getElem?_getD, List.getElem?_eq_getElem hb']
        exact List.getElem_mem hb'
      have := b2 _ hm
      simp only [decide_eq_true_eq]
      omega
    simp only [Function.comp, fewF]
    rw [show ((0 : Int) + (a : Int)).toNat = a by omega, this]
  · simp only [Function.comp, fewF]
    rw [show ((0 : Int) + (i : Int)).toNat = i by omega, h4]
    simp
section
variable {n k : Nat} {S : Store}
theorem c_lfirst_pair (l : List Bool) (hl : l.length ≤ 2000) : callN Lib (n + 2) 270 [.str (wrd l)] S = .ok (tripD (roundP l)) S := by
  have e1 : ∀ S, callN Lib (n + 1) 269 [.str (wrd l)] S = .ok (.lst ((cnts (l ++ l)).map .int)) S := fun S => c_lcounts2 (n := n) l (by omega)
  rw [callN_eq (d := f_law_first_pair) rfl]
  generalize callN Lib (n + 1) = c at e1
  refine run_keep rfl ?_
  have oL := fun S => oLen_wrd (S := S) (l := l) (by omega)
  have ix : ∀ (i : Nat) S, i ≤ 2 * l.length → oIx (.lst ((cnts (l ++ l)).map .int)) (.int i) S = some (.int (rc l i), S) := fun i S h => by
    have := ix_ints (S := S) (ns := cnts (l ++ l)) (i := i) (by rw [cnts_len]; simp; omega)
    rw [this, cnts_get (by simp; omega)]
    rfl
  generalize hC : D.lst ((cnts (l ++ l)).map .int) = C at e1 ix
  have rg1 := iRng1_nat (m := l.length) (by omega)
  have fd := for_findD (S := S) (p := .nm 3) (b := w_law_first_pair_3 c) (lenR l) (fun s => ∃ x3 x4 x5 x6, s = [some (.str (wrd l)), some C, some (.int l.length), x3, x4, x5, x6, none]) (rngL 1 (l.length - 1)) (fun d hd s ⟨x3, x4, x5, x6, hs⟩ => by
    subst hs
    obtain ⟨a, ha, rfl⟩ := rngL_mem hd
    refine ⟨_, rfl, ?_⟩
    have e : (1 + (a : Int)).toNat = a + 1 := by omega
    have al := ahead_len (l := l) (a := a) (by omega)
    have tl : (cnts (ahead l a)).length = l.length + a + 1 := by rw [cnts_len, al]
    have tn : (cnts (ahead l a)).length - (a + 1) = l.length := by omega
    have hne : 0 < (nums (cnts (ahead l a)) (a + 1)).length := by rw [nums_len, tn]; omega
    have l1 : ∀ (x5' x6' : Option D), lcL (.nm 5) (eC (.bl true)) (w_law_first_pair_0 c) [some (.str (wrd l)), some C, some (.int l.length), some (.int (1 + (a : Int))), x4, x5', x6', none] (rngL 0 l.length) [] S = .ok (.lst ((nums (cnts (ahead l a)) (a + 1)).map .int)) S := fun x5' x6' => by
      rw [lc_rng (fun i => .int ((cnts (ahead l a)).getD (i + (a + 1)) 0 - (cnts (ahead l a)).getD i 0)) (fun i hi => ⟨rfl, ?_⟩) (by omega)]
      · unfold nums
        rw [tn, List.map_map]
        rfl
      · have i1 := ix (i + (a + 1)) S (by omega)
        have i2 := ix i S (by omega)
        rw [cnts_get (by omega), cnts_get (by omega), cnt_ahead (by omega), cnt_ahead (by omega)]
        rw [show ((i + (a + 1) : Nat) : Int) = (i : Int) + (1 + a) by omega] at i1
        simp [w_law_first_pair_0, i1, i2]
    have mx := ints_max (S := S) hne
    have mn := ints_min (S := S) hne
    simp only [lenR, e, Nat.add_sub_cancel]
    by_cases h : maxI (nums (cnts (ahead l a)) (a + 1)) - minI (nums (cnts (ahead l a)) (a + 1)) < 2
    · have e0 : pairOf (cnts (ahead l a)) (a + 1) = none := by unfold pairOf; rw [if_pos h]
      rw [e0]
      have h' : ¬ 1 < maxI (nums (cnts (ahead l a)) (a + 1)) - minI (nums (cnts (ahead l a)) (a + 1)) := by omega
      have l2 := l1 none x6
      generalize (nums (cnts (ahead l a)) (a + 1)).map D.int = N at *
      simp [w_law_first_pair_3, rg1, wipeS, l2, mx, mn, h']
    · obtain ⟨i, j, e0, ff⟩ := find_few (by omega) h
      rw [e0]
      rw [tn] at ff
      have h' : 1 < maxI (nums (cnts (ahead l a)) (a + 1)) - minI (nums (cnts (ahead l a)) (a + 1)) := by omega
      have l2 := l1 none x6
      have nl : (nums (cnts (ahead l a)) (a + 1)).length = l.length := by rw [nums_len, tn]
      clear l1
      generalize nums (cnts (ahead l a)) (a + 1) = ns at *
      have ixn := fun (i : Nat) S (h : i < l.length) => ix_ints (S := S) (ns := ns) (i := i) (by omega)
      generalize hN : D.lst (ns.map D.int) = N at *
      have inner := for_findD (S := S) (p := .nm 5) (b := w_law_first_pair_2 c) (fewF ns ((a + 1 : Nat) : Int)) (fun s => ∃ x5 x6, s = [some (.str (wrd l)), some C, some (.int l.length), some (.int (1 + (a : Int))), some N, x5, x6, none]) (rngL 0 l.length) (fun d hd s ⟨x5, x6, hs⟩ => by
        subst hs
        obtain ⟨b, hb, rfl⟩ := rngL_mem hd
        refine ⟨_, rfl, ?_⟩
        have eb : ((0 : Int) + (b : Int)).toNat = b := by omega
        have l3 : ∀ x6', lcL (.nm 7) (e2 oGt (e2 oSub (e2 oIx (eV 4) (eV 5)) (e2 oIx (eV 4) (eV 7))) (eC (.int 1))) (w_law_first_pair_1 c) [some (.str (wrd l)), some C, some (.int l.length), some (.int (1 + (a : Int))), some N, some (.int b), x6', none] (rngL 0 l.length) [] S = .ok (.lst ((idxs (fun y => decide (2 ≤ ns.getD b 0 - y)) ns).map fun (z : Nat) => .int z)) S := fun x6' => by
          have ef : ((fun d => match d with | D.int z => decide (2 ≤ ns.getD b 0 - ns.getD z.toNat 0) | _ => false) ∘ fun (i : Nat) => D.int (0 + (i : Int))) = fun (i : Nat) => decide (2 ≤ ns.getD b 0 - ns.getD i 0) := by
            funext i
            simp
          have hf : ((rngL 0 l.length).filter (fun d => match d with | D.int z => decide (2 ≤ ns.getD b 0 - ns.getD z.toNat 0) | _ => false)).map id = (idxs (fun y => decide (2 ≤ ns.getD b 0 - y)) ns).map fun (z : Nat) => D.int z := by
            unfold rngL idxs
            rw [nl, List.map_id, List.filter_map, ef]
            refine List.map_congr_left fun i _ => ?_
            rw [Int.zero_add]
          rw [lc_filtR (fun d => match d with | .int z => decide (2 ≤ ns.getD b 0 - ns.getD z.toNat 0) | _ => false) id (rngL 0 l.length) [] (fun d hd => by
            obtain ⟨z, hz, rfl⟩ := rngL_mem hd
            have x1 := ixn b S hb
            have x2 := ixn z S hz
            refine ⟨[some (.str (wrd l)), some C, some (.int l.length), some (.int (1 + (a : Int))), some N, some (.int b), x6', some (.int (0 + (z : Int)))], rfl, ?_, fun _ => by simp [w_law_first_pair_1]⟩
            have ez : ((0 : Int) + (z : Int)).toNat = z := by omega
            have ed : decide (1 < ns.getD b 0 - ns.getD z 0) = decide (2 ≤ ns.getD b 0 - ns.getD z 0) := by
              rw [decide_eq_decide]
              omega
            simp only [ez, ← ed]
            simp [x1, x2]) (by rw [rngL_len, PySem.sizeLine_eq]; simp; omega), hf, List.nil_append]
        simp only [fewF, eb]
        cases hx : idxs (fun y => decide (2 ≤ ns.getD b 0 - y)) ns with
        | nil =>
          have l4 := l3 x6
          rw [hx] at l4
          simp at l4
          simp [w_law_first_pair_2, rg1, wipeS, l4]
        | cons j r =>
          have l4 := l3 x6
          rw [hx] at l4
          have x0 : ∀ S, oIx (.lst ((j :: r).map fun (z : Nat) => D.int z)) (.int 0) S = some (.int j, S) := fun S => oIx_lst (n := 0) rfl
          have ln : ∀ S, oLen [.lst ((j :: r).map fun (z : Nat) => D.int z)] S = some (.int ((j :: r).length : Nat), S) := fun S => by simp
          have lp : (0 : Int) < (((j :: r).length : Nat) : Int) := by simp
          generalize D.lst ((j :: r).map fun (z : Nat) => D.int z) = J at *
          generalize (j :: r).length = m at *
          have lp' : 0 < m := by omega
          simp [w_law_first_pair_2, rg1, wipeS, l4, ln, lp', x0]
          omega) [some (.str (wrd l)), some C, some (.int l.length), some (.int (1 + (a : Int))), some N, x5, x6, none] ⟨_, _, rfl⟩
      rw [ff] at inner
      simp only at inner
      rw [show (((a + 1 : Nat)) : Int) = 1 + (a : Int) by omega] at inner
      simp [w_law_first_pair_3, rg1, wipeS, l2, mx, mn, h', inner]) [some (.str (wrd l)), some C, some (.int l.length), none, none, none, none, none] ⟨_, _, _, _, rfl⟩
  rw [find_lenR] at fd
  have rg := iRng2_1 (m := l.length) (by omega)
  cases h : roundP l with
  | some x =>
    rw [h] at fd
    simp only at fd
    simp [b_law_first_pair, e1, oL, rg, fd]
  | none =>
    rw [h] at fd
    obtain ⟨s', fd, -⟩ := fd
    simp [b_law_first_pair, e1, oL, rg, fd, tripD]
end
end Q
set_option maxHeartbeats 1000000
namespace Q
open PySem L2
theorem wrd_extract (L : List Bool) (i n : Nat) : (wrd L).cps.extract i (i + n) = (wrd ((L.drop i).take n)).cps := by
  apply Array.toList_inj.mp
  unfold wrd
  simp [Array.toList_extract, List.map_drop, List.map_take]
theorem subAt_wrd (L l : List Bool) (i : Nat) : Builtin.Str.subAt (wrd L) (wrd l) i = decide ((L.drop i).take l.length = l) := by
  unfold Builtin.Str.subAt
  rw [wrd_len, wrd_extract, Bool.eq_iff_iff, beq_iff_eq, decide_eq_true_iff]
  constructor
  · intro h
    exact wrd_inj (l := (L.drop i).take l.length) (m := l) (by cases h2 : wrd ((L.drop i).take l.length); rw [h2] at h; subst h; rfl)
  · intro h
    rw [h]
theorem twice_rot {L : List Bool} {i : Nat} (h : i < L.length) : ((L ++ L).drop i).take L.length = rot L i := by
  rw [← rot_eq L h, List.drop_append_of_le_length (by omega), List.take_append, List.length_drop, List.take_of_length_le (by simp)]
  congr 2
  omega
def firstT (L l : List Bool) : Nat := ((List.range l.length).filter fun t => decide (rot L t = l)).headD 0
theorem firstT_ex {L l : List Bool} (hl : L.length = l.length) (h : ∃ t, t < l.length ∧ rot L t = l) : ∃ r, ((List.range l.length).filter fun t => decide (rot L t = l)) = firstT L l :: r ∧ firstT L l < l.length ∧ rot L (firstT L l) = l ∧ ∀ k, k < firstT L l → rot L k ≠ l := by
  obtain ⟨t, ht, e⟩ := h
  have hm : t ∈ (List.range l.length).filter fun t => decide (rot L t = l) := by
    rw [List.mem_filter]
    exact ⟨List.mem_range.mpr ht, decide_eq_true e⟩
  cases hf : (List.range l.length).filter fun t => decide (rot L t = l) with
  | nil => rw [hf] at hm; cases hm
  | cons i r =>
    have e0 : firstT L l = i := by unfold firstT; rw [hf]; rfl
    obtain ⟨h1, h2, h3⟩ := range_filter_head _ _ _ _ hf
    rw [e0]
    exact ⟨r, rfl, h1, of_decide_eq_true h2, fun k hk z => by have := h3 k hk; rw [decide_eq_false_iff_not] at this; exact this z⟩
theorem occ_turn {L l : List Bool} (hl : L.length = l.length) (h : ∃ t, t < l.length ∧ rot L t = l) : ∃ r, Builtin.Str.occurrences (wrd (L ++ L)) (wrd l) 0 (wrd (L ++ L)).length 1 = firstT L l :: r := by
  obtain ⟨r0, -, h1, h2, h3⟩ := firstT_ex hl h
  have hat : ∀ i, i < l.length → (Builtin.Str.subAt (wrd (L ++ L)) (wrd l) i = true ↔ rot L i = l) := fun i hi => by
    rw [subAt_wrd, decide_eq_true_iff, ← hl, twice_rot (by omega)]
  rcases StrLaws.occ_head (wrd (L ++ L)) (wrd l) 1 (by omega) with ⟨-, hn⟩ | ⟨i, r, e, ha, hn⟩
  · exact absurd ⟨by rw [wrd_len, wrd_len]; simp; omega, (hat _ h1).mpr h2⟩ (hn (firstT L l))
  · refine ⟨r, ?_⟩
    rw [e]
    congr 1
    have hi : i ≤ firstT L l := by
      by_cases hle : i ≤ firstT L l
      · exact hle
      · exact absurd ⟨by rw [wrd_len, wrd_len]; simp; omega, (hat _ h1).mpr h2⟩ (hn (firstT L l) (by omega))
    by_cases he : i = firstT L l
    · exact he
    · exact absurd ((hat i (by omega)).mp ha.2) (h3 i (by omega))
section
variable {n k : Nat} {S : Store}
theorem c_least_of {N : Nat} {m : Int} (hN : 0 < N) (h1 : N ≤ 500) (m0 : 0 ≤ m) (m1 : m ≤ N) : callN Lib (n + 3) 69 [.int N, .int m] S = .ok (.str (wrd (mech N m 0))) S := by
  have hN' : (0 : Int) < N := by omega
  have e1 : callN Lib (n + 2) 6 [.int m, .int N] S = .ok (.tup [.int (lo m N).1, .int (lo m N).2]) S := c_frac (n := n) m N hN' (by omega)
  have y1 := lo_y1 (x := m) hN'
  have y2 := lo_y2 (x := m) hN'
  have r : IsRule (lo m N).1 (lo m N).2 0 1 := ⟨y1, by omega, lo_x0 m0, lo_le hN' m1, lo_gcd hN', by omega, by omega, by omega, by omega, by decide⟩
  have e2 := c_row_of (n := n) (S := S) r 0 N (by omega)
  rw [days_mech hN] at e2
  rw [callN_eq (d := f_least_of) rfl]
  generalize callN Lib (n + 2) = c at *
  refine run_keep rfl ?_
  unfold rul at e2
  simp [b_least_of, e1, e2]
end
end Q
set_option maxHeartbeats 1000000
namespace Q
open PySem L2
theorem bal_of_round {l : List Bool} (B : BalR l) : Bal (cnt l) l.length := by
  intro i j a hi hj
  by_cases h0 : a = 0
  · subst h0; simp [gn]
  · by_cases h1 : a = l.length
    · have e1 : i = 0 := by omega
      have e2 : j = 0 := by omega
      rw [e1, e2]; omega
    · have := B i j a (by omega) (by omega) (by omega) (by omega)
      unfold gn at this ⊢
      rwa [rc_lo (by omega), rc_lo (by omega), rc_lo (by omega), rc_lo (by omega)] at this
theorem cnt_not (l : List Bool) : ∀ i, i ≤ l.length → cnt (l.map (!·)) i = i - cnt l i := by
  induction l with
  | nil => intro i hi; have : i = 0 := by simpa using hi
           subst this; rfl
  | cons b l ih =>
    intro i hi
    cases i with
    | zero => rfl
    | succ i =>
      have := ih i (by simpa using hi)
      unfold cnt at this ⊢
      rw [List.map_cons, List.take_succ_cons, List.take_succ_cons, List.count_cons, List.count_cons]
      cases b <;> simp <;> omega
theorem round_not {l : List Bool} (B : BalR l) : BalR (l.map (!·)) := by
  intro i j a hi hj h1 h2
  rw [List.length_map] at hi hj h2
  have e : ∀ x, x ≤ 2 * l.length → rc (l.map (!·)) x = x - rc l x := fun x hx => by
    unfold rc
    rw [← List.map_append]
    exact cnt_not (l ++ l) x (by simp; omega)
  have := B j i a hj hi h1 h2
  unfold gn at this ⊢
  rw [e _ (by omega), e _ (by omega), e _ (by omega), e _ (by omega)]
  push_cast
  omega
theorem cnt_rev (l : List Bool) (i : Nat) (hi : i ≤ l.length) : cnt l.reverse i = cnt l l.length - cnt l (l.length - i) := by
  unfold cnt
  rw [List.take_reverse, List.count_reverse, List.take_length]
  have := List.count_append (a := true) (l₁ := l.take (l.length - i)) (l₂ := l.drop (l.length - i))
  rw [List.take_append_drop] at this
  omega
theorem round_rev {l : List Bool} (B : BalR l) : BalR l.reverse := by
  intro i j a hi hj h1 h2
  rw [List.length_reverse] at hi hj h2
  have e : ∀ x, x ≤ 2 * l.length → rc l.reverse x = rc l (2 * l.length) - rc l (2 * l.length - x) := fun x hx => by
    unfold rc
    rw [← List.reverse_append, cnt_rev _ _ (by simp; omega)]
    simp only [List.length_append]
    rw [show l.length + l.length = 2 * l.length by omega]
  -- a stretch that begins behind the end is one that begins ahead of it
  have sh : ∀ x, x ≤ l.length → gn (rc l) (l.length + x) a = gn (rc l) x a ∨ l.length < x + a := fun x hx => by
    by_cases h : x + a ≤ l.length
    · left
      unfold gn
      rw [show l.length + x + a = l.length + (x + a) by omega, rc_hi, rc_hi, rc_lo h, rc_lo hx]
      omega
    · right; omega
  have w : ∀ i, i < l.length → ∃ y, y < l.length ∧ gn (rc l.reverse) i a = gn (rc l) y a := fun i hi => by
    have g : gn (rc l.reverse) i a = gn (rc l) (2 * l.length - i - a) a := by
      unfold gn
      rw [e _ (by omega), e _ (by omega), show 2 * l.length - i - a + a = 2 * l.length - i by omega, show 2 * l.length - (i + a) = 2 * l.length - i - a by omega]
      omega
    by_cases hb : 2 * l.length - i - a < l.length
    · exact ⟨_, hb, g⟩
    · refine ⟨l.length - i - a, by omega, ?_⟩
      rw [g]
      rcases sh (l.length - i - a) (by omega) with z | z
      · rw [← z]
        congr 1
        omega
      · omega
  obtain ⟨y1, hy1, g1⟩ := w i hi
  obtain ⟨y2, hy2, g2⟩ := w j hj
  rw [g1, g2]
  exact B y1 y2 a hy1 hy2 h1 h2
end Q
set_option maxHeartbeats 1000000
namespace Q
open PySem L2
theorem same_refl : ∀ (n : Nat) (d : D), plainD n d = true → ∀ (m : Nat) (S : Store), callN Lib (m + n + 1) 234 [d, d] S = .ok (.bl true) S
  | _, .non, _, m, S => c_same_non
  | _, .bl x, _, m, S => c_same_bl x
  | _, .int x, _, m, S => c_same_int x
  | _, .str x, _, m, S => c_same_str x
  | 0, .tup ds, h, m, S => by simp [plainD] at h
  | 0, .lst ds, h, m, S => by simp [plainD] at h
  | n + 1, .tup ds, h, m, S => by
    simp only [plainD, Bool.and_eq_true, decide_eq_true_eq, List.all_eq_true] at h
    exact c_same_tup _ (fun d hd => same_refl n d (h.2 d hd) m S) h.1
  | n + 1, .lst ds, h, m, S => by
    simp only [plainD, Bool.and_eq_true, decide_eq_true_eq, List.all_eq_true] at h
    exact c_same_lst _ (fun d hd => same_refl n d (h.2 d hd) m S) h.1
  | n, .ins _ _, h, m, S => by cases n <;> simp [plainD] at h
  | n, .dct _, h, m, S => by cases n <;> simp [plainD] at h
  | n, .ptr _, h, m, S => by cases n <;> simp [plainD] at h
  | n, .obj _, h, m, S => by cases n <;> simp [plainD] at h
  | n, .src _, h, m, S => by cases n <;> simp [plainD] at h
  | n, .fn _, h, m, S => by cases n <;> simp [plainD] at h
  | n, .exc _ _, h, m, S => by cases n <;> simp [plainD] at h
theorem trip_flat (o : Option (Nat × Nat × Nat)) : (tripD o).flat = true := by
  cases o with
  | none => rfl
  | some x => obtain ⟨i, j, a⟩ := x; rfl
section
variable {n k : Nat} {S : Store}
theorem deep15 {m : Nat} : deep (callN Lib (m + 2)) = true := deep_low rfl
theorem low_round_pair {m : Nat} (vs : List D) : callN Lib (m + 2) 1000267 vs S = callN Lib m 267 vs S := callN_low (id := 267) rfl
theorem cnt_filter (l : List Bool) : (((l.map fun b => D.str (sgn b)).filter oneD).length : Int) = cnt l l.length := by
  unfold cnt
  rw [List.take_length, List.filter_map, List.length_map]
  congr 1
  induction l with
  | nil => rfl
  | cons b l ih =>
    rw [List.filter_cons, List.count_cons]
    have : (oneD ∘ fun b => D.str (sgn b)) b = b := sgn_is1 b
    rw [this]
    cases b <;> simp [ih]
end
end Q
namespace Q
open PySem L2
def nth (p q a b k : Int) : Int := -(-(((k + 1) * b - a) * q) / (p * b)) - 1
section
variable {p q a b k : Int}
theorem tot_ge (r : IsRule p q a b) (n k : Int) : k + 1 ≤ tot p q a b n ↔ ((k + 1) * b - a) * q ≤ n * (p * b) := by
  have h1 := r.q1; have h2 := r.b1
  unfold tot
  have hb : 0 < q * b := Int.mul_pos (by omega) (by omega)
  rw [Int.le_ediv_iff_mul_le hb, Int.sub_mul, Int.mul_assoc n p b]
  have e : (k + 1) * (q * b) = (k + 1) * b * q := by rw [Int.mul_comm q b, Int.mul_assoc]
  rw [e]
  omega
theorem nth_ge (r : IsRule p q a b) (hp : 0 < p) (n k : Int) : k + 1 ≤ tot p q a b n ↔ nth p q a b k + 1 ≤ n := by
  have h2 := r.b1
  rw [tot_ge r]
  unfold nth
  have hb : 0 < p * b := Int.mul_pos hp (by omega)
  generalize ((k + 1) * b - a) * q = t
  generalize p * b = u at *
  have e : -n ≤ -t / u ↔ -n * u ≤ -t := Int.le_ediv_iff_mul_le hb
  rw [Int.neg_mul] at e
  constructor
  · intro h
    have := e.mpr (by omega)
    omega
  · intro h
    have := e.mp (by omega)
    omega
theorem tot_step (r : IsRule p q a b) (n : Int) : tot p q a b n ≤ tot p q a b (n + 1) ∧ tot p q a b (n + 1) ≤ tot p q a b n + 1 := by
  have := tf_step r.form n
  rw [tot_kk r, tot_kk r]
  exact this
theorem nth_tot (r : IsRule p q a b) (hp : 0 < p) (k : Int) : tot p q a b (nth p q a b k) = k ∧ tot p q a b (nth p q a b k + 1) = k + 1 := by
  have h1 := (nth_ge r hp (nth p q a b k + 1) k).mpr (Int.le_refl _)
  have h2 : ¬ k + 1 ≤ tot p q a b (nth p q a b k) := fun z => by
    have := (nth_ge r hp _ k).mp z
    omega
  have h3 := tot_step r (nth p q a b k)
  omega
theorem tot_zero (r : IsRule p q a b) : tot p q a b 0 = 0 := by
  rw [tot_kk r]
  exact tf_zero r.form
theorem nth_nn (r : IsRule p q a b) (hp : 0 < p) (hk : 0 ≤ k) : 0 ≤ nth p q a b k := by
  have h : ¬ nth p q a b k + 1 ≤ 0 := fun z => by
    have := (nth_ge r hp 0 k).mpr z
    rw [tot_zero r] at this
    omega
  omega
theorem nth_mono (r : IsRule p q a b) (hp : 0 < p) {k j : Int} (h : k ≤ j) : nth p q a b k ≤ nth p q a b j := by
  have h1 := (nth_ge r hp (nth p q a b j + 1) k).mp (by rw [(nth_tot r hp j).2]; omega)
  omega
end
section
variable {n : Nat} {S : Store}
end
end Q
namespace Q
open PySem L2
section
variable {n : Nat} {S : Store}
end
end Q
namespace Q
open PySem L2
section
variable {n k : Nat} {S : Store}
end
end Q
namespace Q
open PySem L2
theorem get_del_ne {S : Store} {k j : Nat} (h : j ≠ k) : (S.del k).get j = S.get j := by
  unfold Store.get Store.del
  simp [List.getElem?_set_ne (Ne.symm h)]
theorem get_cut_lt {S : Store} {n j : Nat} (h : j < n) : (S.cut n).get j = S.get j := by
  unfold Store.get Store.cut
  simp [List.getElem?_take, h]
theorem Upd.len {k : Nat} {S S' : Store} (h : Upd k S S') : S'.L.length = S.L.length := by
  obtain ⟨xs, rfl⟩ := h
  exact put_len
theorem Upd.other {k j : Nat} {S S' : Store} (h : Upd k S S') (hj : j ≠ k) : S'.get j = S.get j := by
  obtain ⟨xs, rfl⟩ := h
  exact get_put_ne hj
theorem Hd.lt {k : Nat} {S : Store} (h : Hd k S) : k < S.L.length := h.elim fun _ z => get_lt z.1
theorem Hd.new {k : Nat} {S : Store} (h : Hd k S) (xs : List D) : Hd k (S.new xs) := by
  obtain ⟨x, g, ok⟩ := h
  exact ⟨x, by rw [get_new_lt (get_lt g)]; exact g, ok⟩
theorem Hd.put {k j : Nat} {S : Store} (h : Hd k S) (hj : k ≠ j) (xs : List D) : Hd k (S.put j xs) := by
  obtain ⟨x, g, ok⟩ := h
  exact ⟨x, by rw [get_put_ne hj]; exact g, ok⟩
theorem Hd.del {k j : Nat} {S : Store} (h : Hd k S) (hj : k ≠ j) : Hd k (S.del j) := by
  obtain ⟨x, g, ok⟩ := h
  exact ⟨x, by rw [get_del_ne hj]; exact g, ok⟩
theorem Hd.cut {k n : Nat} {S : Store} (h : Hd k S) (hn : k < n) : Hd k (S.cut n) := by
  obtain ⟨x, g, ok⟩ := h
  exact ⟨x, by rw [get_cut_lt hn]; exact g, ok⟩
@[simp] theorem del_len {S : Store} {k : Nat} : (S.del k).L.length = S.L.length := by unfold Store.del; simp
@[simp] theorem new_len {S : Store} {xs : List D} : (S.new xs).L.length = S.L.length + 1 := by unfold Store.new; simp
theorem flats_of : ∀ {ds : List D}, (∀ d ∈ ds, d.flat = true) → flats ds = true
  | [], _ => rfl
  | d :: ds, h => by
    unfold flats
    rw [h d List.mem_cons_self, flats_of fun e he => h e (List.mem_cons_of_mem _ he)]
    rfl
def RuleD (d : D) : Prop := ∃ p q a b, d = rul p q a b ∧ IsRule p q a b
theorem RuleD.flat {d : D} (h : RuleD d) : d.flat = true := by
  obtain ⟨p, q, a, b, rfl, _⟩ := h
  rfl
theorem append_ok {S : Store} {j : Nat} {xs : List D} {d : D} (g : S.get j = some xs) (hl : xs.length ≤ 1000) (hf : d.flat = true) : oAppend [.ptr j, d] S = some (.non, S.put j (xs ++ [d])) := by
  have e : lineOk xs.length = true := by unfold lineOk; rw [decide_eq_true_iff, PySem.sizeLine_eq]; omega
  simp [oAppend, g, e, hf]
theorem isLst_ok {S : Store} {j : Nat} {xs : List D} (g : S.get j = some xs) : isLstD (.ptr j) S = true := by simp [isLstD, itemsL, g]
def StartD (d : D) : Prop := ∃ a b, d = .tup [.int a, .int b] ∧ 1 ≤ b ∧ b ≤ 10000 ∧ 0 ≤ a ∧ a < b ∧ Int.gcd a b = 1
def StepD (d : D) : Prop := ∃ p q, d = .tup [.int p, .int q] ∧ 1 ≤ q ∧ q ≤ 10000 ∧ 0 ≤ p ∧ p ≤ q ∧ Int.gcd p q = 1
section
variable {n k : Nat} {S : Store}
theorem ruleD_of {x y : D} (hx : StepD x) (hy : StartD y) : RuleD (.tup [x, y]) := by
  obtain ⟨p, q, rfl, h1, h2, h3, h4, h5⟩ := hx
  obtain ⟨a, b, rfl, g1, g2, g3, g4, g5⟩ := hy
  exact ⟨p, q, a, b, rfl, h1, h2, h3, h4, h5, g1, g2, g3, g4, g5⟩
def turnR (c : CallT) : TSt := tExpr (eM isLstD oAppend (eV 2) [eTup [eV 3, eCall c 233 [eV 0, eV 1]]])
theorem turnR_ok (c : CallT) {S1 : Store} {j : Nat} {xs ds : List D} {x y : D} (g : S.get j = some xs) (g1 : S1.get j = some xs) (hl : xs.length ≤ 1000) (hf : (D.tup [x, y]).flat = true)
    (h : c 233 [.ptr k, .lst ds] S = .ok y S1) : turnR c [some (.ptr k), some (.lst ds), some (.ptr j), some x] S = some (.nx [some (.ptr k), some (.lst ds), some (.ptr j), some x], S1.put j (xs ++ [.tup [x, y]])) := by
  have a1 := isLst_ok g
  have a2 := append_ok g1 hl hf
  unfold turnR
  simp [a1, h, a2]
def InvR (k j : Nat) (ds : List D) (m : Nat) (s : Sl) (S : Store) : Prop := (∃ u, s = [some (.ptr k), some (.lst ds), some (.ptr j), u]) ∧ Hd k S ∧ S.L.length = j + 1 ∧ k < j ∧ ∃ xs, S.get j = some xs ∧ xs.length ≤ m ∧ ∀ d ∈ xs, RuleD d
theorem turnR_inv {j m : Nat} {ds : List D} (hm : m ≤ 1000) (hds : ∀ d ∈ ds, StartD d) (h0 : 0 < ds.length) (h1 : ds.length ≤ 1000) {x : D} (hx : StepD x) (s : Sl) (h : InvR k j ds m s S) :
    ∃ s2 S2, turnR (callN Lib (n + 3)) (s.set 3 (some x)) S = some (.nx s2, S2) ∧ InvR k j ds (m + 1) s2 S2 := by
  obtain ⟨⟨u, rfl⟩, H, hl, hkj, xs, g, hxs, hr⟩ := h
  obtain ⟨y, S1, e, H1, U, my⟩ := c_any (n := n + 1) H ds h0 (by omega)
  have hj : j ≠ k := by omega
  have g1 : S1.get j = some xs := (U.other hj).trans g
  have hy := ruleD_of hx (hds y my)
  refine ⟨_, _, turnR_ok _ g g1 (by omega) hy.flat e, ⟨_, rfl⟩, H1.put (Ne.symm hj) _, by rw [put_len, U.len, hl], hkj, _, get_put_self g1, by simp; omega, fun d hd => ?_⟩
  rcases List.mem_append.mp hd with z | z
  · exact hr d z
  · rw [List.mem_singleton.mp z]; exact hy
theorem forR {j : Nat} {ds : List D} (hds : ∀ d ∈ ds, StartD d) (h0 : 0 < ds.length) (h1 : ds.length ≤ 1000) : ∀ (xs : List D) (m : Nat) (s : Sl) (S : Store), (∀ x ∈ xs, StepD x) → InvR k j ds m s S → m + xs.length ≤ 1000 →
    ∃ s2 S2, forL (.nm 3) (turnR (callN Lib (n + 3))) xs s S = some (.nx s2, S2) ∧ InvR k j ds (m + xs.length) s2 S2
  | [], m, s, S, _, h, _ => ⟨s, S, rfl, h⟩
  | x :: xs, m, s, S, hx, h, hm => by
    obtain ⟨s1, S1, e1, i1⟩ := turnR_inv (n := n) (m := m) (by simp at hm; omega) hds h0 h1 (hx x List.mem_cons_self) s h
    obtain ⟨s2, S2, e2, i2⟩ := forR hds h0 h1 xs (m + 1) s1 S1 (fun y hy => hx y (List.mem_cons_of_mem _ hy)) i1 (by simp at hm ⊢; omega)
    refine ⟨s2, S2, ?_, by rw [List.length_cons, Nat.add_comm xs.length 1, ← Nat.add_assoc]; exact i2⟩
    unfold forL
    simp only [put_nm, e1, e2]
end
end Q
namespace Q
open PySem L2
section
variable {n k : Nat} {S : Store}
def tots (p q a b first : Int) (m : Nat) : List D := (List.range (m + 1)).map fun (i : Nat) => .int (tot p q a b (first + i))
theorem lc_rng2 {i : Nat} {t e : TE} {s : Sl} {S : Store} {lo : Int} {m : Nat} (f : Nat → D) (h : ∀ j : Nat, j < m → t (s.set i (some (.int (lo + j)))) S = .ok (.bl true) S ∧ e (s.set i (some (.int (lo + j)))) S = .ok (f j) S) (hm : m ≤ 16777216) :
    lcL (.nm i) t e s (rngL lo m) [] S = .ok (.lst ((List.range m).map f)) S := by
  rw [lc_map (fun d => match d with | .int j => f (j - lo).toNat | d => d)]
  · unfold rngL
    rw [List.map_map, List.nil_append]
    congr 2
    refine List.map_congr_left fun j _ => ?_
    show f (lo + j - lo).toNat = f j
    congr 1
    omega
  · intro d hd
    obtain ⟨j, hj, rfl⟩ := rngL_mem hd
    have := h j hj
    have e2 : (lo + (j : Int) - lo).toNat = j := by omega
    simpa [e2] using this
  · rw [rngL_len, PySem.sizeLine_eq]
    simpa using hm
theorem zip_tots (p q a b first : Int) (m : Nat) : List.zipWith (fun d e => D.tup [d, e]) (tots p q a b first m) ((tots p q a b first m).drop 1) = (List.range m).map fun (i : Nat) => .tup [.int (tot p q a b (first + i)), .int (tot p q a b (first + (i + 1 : Nat)))] := by
  apply List.ext_getElem
  · simp [tots]
  · intro i h1 h2
    simp [tots]
theorem lc_duty {s : Sl} {p q a b first : Int} {m : Nat} (h5 : 5 < s.length) (h6 : 6 < s.length) (hm : m ≤ 16777216) :
    lcL (.tp [.nm 5, .nm 6]) (eC (.bl true)) (eIf (e2 oGt (eV 6) (eV 5)) (eC (.str "1")) (eC (.str "0"))) s ((List.range m).map fun (i : Nat) => .tup [.int (tot p q a b (first + i)), .int (tot p q a b (first + (i + 1 : Nat)))]) [] S = .ok (.lst ((days p q a b first m).map fun b => .str (sgn b))) S := by
  rw [lc_mapP (fun d => match d with | .tup [.int x, .int y] => .str (sgn (decide (x < y))) | d => d)]
  · rw [List.nil_append, List.map_map]
    unfold days
    rw [List.map_map]
    refine congrArg (fun z => Res.ok (D.lst z) S) (List.map_congr_left fun i _ => ?_)
    show D.str (sgn (decide (tot p q a b (first + i) < tot p q a b (first + (i + 1 : Nat))))) = .str (sgn (dut p q a b (first + i)))
    unfold dut
    rw [show first + ((i + 1 : Nat) : Int) = first + i + 1 by omega]
  · intro d hd
    obtain ⟨i, _, rfl⟩ := List.mem_map.mp hd
    refine ⟨(s.set 5 (some (.int (tot p q a b (first + i))))).set 6 (some (.int (tot p q a b (first + (i + 1 : Nat))))), by simp, rfl, ?_⟩
    by_cases h : tot p q a b (first + i) < tot p q a b (first + (i + 1 : Nat))
    · simp only [eIf_eq]
      have h' := h
      push_cast at h'
      simp [h5, h6, sgn]
      simp [h']
    · simp only [eIf_eq]
      have h' := h
      push_cast at h'
      simp [h5, h6, sgn]
      simp [h']
  · rw [PySem.sizeLine_eq]
    simp
    omega
end
end Q
namespace Q
open PySem L2
theorem lc_inv {p : Pat} {t e : TE} {s : Sl} (I : Store → Prop) (P : D → Prop) : ∀ (ds acc : List D) (S : Store), (∀ d ∈ ds, ∀ S, I S → ∃ s1, p.put d s = some s1 ∧ t s1 S = .ok (.bl true) S ∧ ∃ r S', e s1 S = .ok r S' ∧ I S' ∧ P r) → I S → acc.length + ds.length ≤ sizeLine →
    ∃ rs S', lcL p t e s ds acc S = .ok (.lst (acc ++ rs)) S' ∧ I S' ∧ rs.length = ds.length ∧ ∀ r ∈ rs, P r
  | [], acc, S, _, h, _ => ⟨[], S, by simp [lcL], h, rfl, by simp⟩
  | d :: ds, acc, S, h, hI, hl => by
    obtain ⟨s1, h0, h1, r, S1, h2, h3, h4⟩ := h d List.mem_cons_self S hI
    simp only [List.length_cons] at hl
    have h5 : lineOk acc.length = true := by unfold lineOk; exact decide_eq_true (by omega)
    obtain ⟨rs, S', e, g1, g2, g3⟩ := lc_inv I P ds (acc ++ [r]) S1 (fun d' hd => h d' (List.mem_cons_of_mem _ hd)) h3 (by simp; omega)
    refine ⟨r :: rs, S', ?_, g1, by simp [g2], fun x hx => ?_⟩
    · unfold lcL
      simp only [h0, h1, h2, h5, if_true]
      rw [e]
      simp
    · rcases List.mem_cons.mp hx with z | z
      · rw [z]; exact h4
      · exact g3 x z
theorem of_sgns : ∀ {rs : List D}, (∀ r ∈ rs, ∃ b, r = .str (sgn b)) → ∃ l : List Bool, rs = l.map (fun b => .str (sgn b)) ∧ l.length = rs.length
  | [], _ => ⟨[], rfl, rfl⟩
  | r :: rs, h => by
    obtain ⟨b, rfl⟩ := h r List.mem_cons_self
    obtain ⟨l, e, hl⟩ := of_sgns fun x hx => h x (List.mem_cons_of_mem _ hx)
    exact ⟨b :: l, by simp [e], by simp [hl]⟩
section
variable {n k : Nat} {S : Store}
theorem c_any01 (H : Hd k S) : ∃ b S', callN Lib (n + 2) 233 [.ptr k, .str "01"] S = .ok (.str (sgn b)) S' ∧ Hd k S' ∧ Upd k S S' := by
  have l2 : ("01" : Str).length = 2 := by decide +kernel
  obtain ⟨r, S1, e, H1, U, r0, r1⟩ := c_draw (n := n) H 2 (by omega) (by omega)
  have e0 : oLen [.str "01"] S = some (.int 2, S) := by
    rw [oLen_str (by omega), l2]; rfl
  have hx : ∀ S, ∃ b, oIx (.str "01") (.int r) S = some (.str (sgn b), S) := fun S => by
    rcases (show r = 0 ∨ r = 1 by omega) with rfl | rfl
    · exact ⟨false, (oIx_str (z := "01") (i := 0) (c := 48) (by omega) (by rw [s01]; rfl)).trans (by rw [sgn_wrd]; rfl)⟩
    · exact ⟨true, (oIx_str (z := "01") (i := 1) (c := 49) (by omega) (by rw [s01]; rfl)).trans (by rw [sgn_wrd]; rfl)⟩
  obtain ⟨b, hb⟩ := hx S1
  refine ⟨b, S1, ?_, H1, U⟩
  rw [callN_eq (d := f_law_any_v2) rfl]
  generalize callN Lib (n + 1) = c at e
  refine run_keep rfl ?_
  simp [b_law_any_v2, e0, e, hb]
theorem mul_sgn (b : Bool) (m : Nat) (h : m ≤ 10000) : oMulL (.str (sgn b)) (.int m) S = some (.str (wrd (List.replicate m b)), S) := by
  have hl : (sgn b).length = 1 := sgn_len b
  have hz : (1 : Nat) * m ≤ sizeLine := by rw [PySem.sizeLine_eq]; omega
  have e : (⟨((List.replicate m (sgn b).cps.toList).flatten).toArray⟩ : Str) = wrd (List.replicate m b) := by
    rw [sgn_wrd]
    unfold wrd
    congr 1
    rw [List.map_replicate]
    congr 1
    induction m with
    | zero => rfl
    | succ m ih => rw [List.replicate_succ, List.flatten_cons, ih (by omega) (by omega)]; rfl
  unfold oMulL
  simp only [hl, Int.toNat_natCast]
  rw [if_pos (by simp only [Bool.and_eq_true, decide_eq_true_eq]; omega), e]
end
end Q
set_option maxHeartbeats 1000000
namespace Q
open PySem L2
section
variable {n k : Nat} {S : Store}
theorem oAdd_str1 {a b : Str} (h : a.length + b.length ≤ 1000000) : oAdd (.str a) (.str b) S = some (.str (a ++ b), S) := by
  have hz : a.length + b.length ≤ sizeLine := by rw [PySem.sizeLine_eq]; omega
  show (if a.length + b.length ≤ sizeLine then some (D.str (a ++ b), S) else none) = _
  rw [if_pos hz]
theorem sgn_w (b : Bool) : sgn b = wrd [b] := by rw [sgn_wrd]; rfl
theorem lit0 : ("0" : Str) = wrd [false] := sgn_w false
theorem lit1 : ("1" : Str) = wrd [true] := sgn_w true
theorem wrd_drop_any {l : List Bool} (i : Nat) (h2 : l.length ≤ 1000000) : oCut (.str (wrd l)) (some (i : Int)) none S = some (.str (wrd (l.drop i)), S) := by
  by_cases h : i ≤ l.length
  · exact wrd_drop i h h2
  · have hz : (wrd l).length ≤ sizeLine := by rw [wrd_len, PySem.sizeLine_eq]; omega
    have hl : (wrd l).cps.toList.length = l.length := by simp [wrd]
    unfold oCut cutD
    simp only [hz, if_true, HT.sIx_nat, HT.sIx_none, hl]
    rw [Nat.min_eq_right (by omega), Nat.sub_self, List.take_zero, List.drop_of_length_le (by omega)]
    rfl
end
end Q
set_option maxHeartbeats 1000000
namespace Q
open PySem L2
structure IsRPair (l : List Bool) (i j a : Nat) : Prop where
  i_ : i < l.length
  j_ : j < l.length
  a1 : 1 ≤ a
  a2 : a < l.length
  gap : 1 < gn (rc l) i a - gn (rc l) j a
theorem roundP_some {l : List Bool} {i j a : Nat} (h : roundP l = some (i, j, a)) : IsRPair l i j a := by
  unfold roundP at h
  obtain ⟨b, hb, e⟩ := List.exists_of_findSome?_eq_some h
  have hb' := List.mem_range.mp hb
  have al := ahead_len (l := l) (a := b) (by omega)
  cases hp : pairOf (cnts (ahead l b)) (b + 1) with
  | none => rw [hp] at e; cases e
  | some ij =>
    obtain ⟨i', j'⟩ := ij
    rw [hp] at e
    simp only [Option.map_some, Option.some.injEq, Prod.mk.injEq] at e
    obtain ⟨rfl, rfl, rfl⟩ := e
    have tn : (cnts (ahead l b)).length - (b + 1) = l.length := by rw [cnts_len, al]; omega
    have hlt : b + 1 < (cnts (ahead l b)).length := by rw [cnts_len, al]; omega
    by_cases hd : maxI (nums (cnts (ahead l b)) (b + 1)) - minI (nums (cnts (ahead l b)) (b + 1)) < 2
    · unfold pairOf at hp
      rw [if_pos hd] at hp
      cases hp
    · obtain ⟨⟨r1, h1, h2⟩, h3⟩ := pairOf_ex hlt hd
      obtain ⟨r2, h4, h5⟩ := h3 _ h2
      unfold pairOf at hp
      rw [if_neg hd] at hp
      have hp' := Option.some.inj hp
      have hi := congrArg Prod.fst hp'
      have hj := congrArg Prod.snd hp'
      dsimp only at hi hj
      rw [hi] at h2 h5 hj
      rw [hj] at h5
      have l1 := h2.lt
      have l2 := h5.lt
      rw [nums_len, tn] at l1 l2
      have g := of_decide_eq_true h5.at_
      rw [nums_get (by omega), nums_get (by omega)] at g
      refine ⟨l1, l2, by omega, by omega, ?_⟩
      unfold gn at g ⊢
      rw [cnt_ahead (by omega), cnt_ahead (by omega), cnt_ahead (by omega), cnt_ahead (by omega)] at g
      omega
section
variable {n k : Nat} {S : Store}
theorem c_lturn {l : List Bool} (h1 : l.length ≤ 5000) {i : Nat} (hi : i < l.length) : callN Lib (n + 1) 271 [.str (wrd l), .int i] S = .ok (.str (wrd (rot l i))) S := by
  rw [callN_eq (d := f_law_turn_v2) rfl]
  generalize callN Lib n = c
  refine run_keep rfl ?_
  have e3 := wrd_drop (S := S) (l := l) i (by omega) (by omega)
  have e4 := wrd_take (S := S) (l := l) i (by omega) (by omega)
  have e5 := oAdd_wrd (S := S) (l := l.drop i) (m := l.take i) (by simp; omega)
  rw [rot_eq l hi] at e5
  simp [b_law_turn_v2, eCutL, eCutU, ePart, partK, e3, e4, e5]
theorem count_wrd (l : List Bool) : Txt.count (wrd l) "1" = (l.count true : Nat) := by
  rw [s1, PyProof.Rows.count_is]
  have e : (wrd l).cps.toList.map (fun n => PyData.str ⟨#[n]⟩) = l.map fun b => PyData.str ⟨#[bit b]⟩ := by
    unfold wrd
    rw [List.toList_toArray, List.map_map]
    rfl
  rw [e]
  induction l with
  | nil => rfl
  | cons b l ih =>
    rw [List.map_cons]
    show (if Spec.same (PyData.str ⟨#[bit b]⟩) (.str ⟨#[49]⟩) then 1 else 0) + Spec.countIn (.str ⟨#[49]⟩) (l.map fun b => PyData.str ⟨#[bit b]⟩) = _
    have hw : (wrd l).cps.toList.map (fun n => PyData.str ⟨#[n]⟩) = l.map fun b => PyData.str ⟨#[bit b]⟩ := by
      unfold wrd
      rw [List.toList_toArray, List.map_map]
      rfl
    rw [ih hw]
    cases b
    · have : Spec.same (PyData.str ⟨#[bit false]⟩) (.str ⟨#[49]⟩) = false := by decide +kernel
      rw [this]
      simp
    · have : Spec.same (PyData.str ⟨#[bit true]⟩) (.str ⟨#[49]⟩) = true := by decide +kernel
      rw [this]
      simp
      omega
theorem minS_least : ∀ (xs : List Str) (x m : Str), m ∈ x :: xs → (∀ y ∈ x :: xs, m.cps.toList ≤ y.cps.toList) → minS x xs = m
  | [], x, m, h, _ => by
    simp only [List.mem_singleton] at h
    rw [h]
    rfl
  | y :: ys, x, m, h, hl => by
    have ih := minS_least ys (if decide (y.cps.toList < x.cps.toList) = true then y else x) m
    have e : minS x (y :: ys) = minS (if decide (y.cps.toList < x.cps.toList) = true then y else x) ys := rfl
    rw [e]
    refine ih ?_ fun z hz => ?_
    · rcases List.mem_cons.mp h with h1 | h1
      · subst h1
        have := hl y (by simp)
        rw [if_neg (by simp only [decide_eq_true_eq]; exact fun z => absurd z (List.not_lt.mpr this))]
        exact List.mem_cons_self
      · rcases List.mem_cons.mp h1 with h2 | h2
        · subst h2
          by_cases hlt : m.cps.toList < x.cps.toList
          · rw [if_pos (by simpa using hlt)]
            exact List.mem_cons_self
          · rw [if_neg (by simpa using hlt)]
            have hx := hl x (by simp)
            have : m = x := str_of_cps (List.le_antisymm hx (List.not_lt.mp hlt))
            rw [this]
            exact List.mem_cons_self
        · exact List.mem_cons_of_mem _ h2
    · rcases List.mem_cons.mp hz with h1 | h1
      · subst h1
        split
        · exact hl y (by simp)
        · exact hl x (by simp)
      · exact hl z (by simp [h1])
theorem strsOf_map : ∀ (xs : List Str), strsOf (xs.map D.str) = some xs
  | [] => rfl
  | x :: xs => by simp [strsOf, strsOf_map xs]
theorem c_least_round {N : Nat} {m : Int} (hN : 0 < N) (h1 : N ≤ 500) (m0 : 0 ≤ m) (m1 : m ≤ N) : callN Lib (n + 4) 70 [.int N, .int m] S = .ok (.str (wrd (mech N m 0))) S := by
  have e1 := c_least_of (n := n) (S := S) hN h1 m0 m1
  have e2 : callN Lib (n + 3) 2 [.int N, .int 1, .int 500] S = .ok (.bl true) S := by
    rw [c_is_within, decide_eq_true ⟨by omega, by omega⟩]
  have e3 : callN Lib (n + 3) 2 [.int m, .int 0, .int N] S = .ok (.bl true) S := by
    rw [c_is_within, decide_eq_true ⟨by omega, by omega⟩]
  rw [callN_eq (d := f_least_round) rfl]
  generalize callN Lib (n + 3) = c at *
  refine run_keep rfl ?_
  simp [b_least_round, e1, e2, e3]
end
end Q
set_option maxHeartbeats 1000000
namespace Q
open PySem L2
def Odd15 (d : D) : Prop := thingOk d = true ∧ rowD d = false
section
variable {n k : Nat} {S : Store}
theorem c_lround {N : Nat} {m : Int} (hN : 0 < N) (h1 : N ≤ 500) (m0 : 0 ≤ m) (m1 : m ≤ N) : ∃ l : List Bool, callN Lib (n + 1) 268 [.int N, .int m] S = .ok (.str (wrd l)) S ∧ l.length = N := by
  have lp := for_idxL (p := .nm 3) (b := w_law_round_0 (callN Lib n)) (S := S) (fun i s => ∃ l x3, s = [some (.int N), some (.int m), some (.str (wrd l)), x3] ∧ l.length = i) (rngL 0 N) (fun i d s hd ⟨l, x3, hs, hl⟩ => by
    subst hs
    obtain ⟨hi, rfl⟩ := rngL_get hd
    obtain ⟨b, hb⟩ : ∃ b, b = decide (((0 : Int) + i) * m / N < ((0 : Int) + i + 1) * m / N) := ⟨_, rfl⟩
    have ad := oAdd_wrd (S := S) (l := l) (m := [b]) (by simp; omega)
    rw [← sgn_w] at ad
    have m1 := fun (x : Int) => oMul_r (S := S) (i := x) (j := m) (by omega) (by omega)
    have d1 := fun (x : Int) => oDiv_62 (S := S) (i := x) (j := N) (by omega) (by omega)
    refine ⟨_, rfl, [some (.int N), some (.int m), some (.str (wrd (l ++ [b]))), some (.int (0 + (i : Int)))], ?_, l ++ [b], _, rfl, by simp [hl]⟩
    cases b with
    | true =>
      have h := of_decide_eq_true hb.symm
      have ad' : oAdd (.str (wrd l)) (.str "1") S = some (.str (wrd (l ++ [true])), S) := ad
      rw [Int.zero_add] at h ⊢
      simp [w_law_round_0, m1, d1, h, ad']
    | false =>
      have h := of_decide_eq_false hb.symm
      have ad' : oAdd (.str (wrd l)) (.str "0") S = some (.str (wrd (l ++ [false])), S) := ad
      rw [Int.zero_add] at h ⊢
      simp [w_law_round_0, m1, d1, h, ad']) 0 [some (.int N), some (.int m), some (.str ""), none] (Nat.zero_le _) ⟨[], none, rfl, rfl⟩
  obtain ⟨s', lp, l, x3, rfl, hl⟩ := lp
  rw [List.drop_zero] at lp
  rw [rngL_len] at hl
  refine ⟨l, ?_, hl⟩
  have rg := iRng1_nat (m := N) (by omega)
  rw [callN_eq (d := f_law_round) rfl]
  generalize callN Lib n = c at *
  refine run_keep rfl ?_
  simp [b_law_round, rg, lp]
theorem wrd_cut {l : List Bool} {a b : Nat} (hab : a ≤ b) (hb : b ≤ l.length) (h2 : l.length ≤ 1000000) : oCut (.str (wrd l)) (some (a : Int)) (some (b : Int)) S = some (.str (wrd ((l.drop a).take (b - a))), S) := by
  have hz : (wrd l).length ≤ sizeLine := by rw [wrd_len, PySem.sizeLine_eq]; omega
  have hl : (wrd l).cps.toList.length = l.length := by simp [wrd]
  unfold oCut
  simp only [hz, if_true]
  rw [cutD_nat, hl, Nat.min_eq_left (by omega), Nat.min_eq_left (by omega)]
  congr 3
  unfold wrd
  simp [List.map_take, List.map_drop]
theorem turn15 (H : Hd k S) (N : Nat) (hN : 0 < N) (h1 : N ≤ 500) (X1 : D) (kd : D) (d : D) (l : List Bool) (hl : l.length = N) (x : List (Option D)) (hx : x.length = 8) : ∃ l' x' S', w_law_drawn_round_1 (callN Lib (n + 1)) ([some (.ptr k), some X1, some (.int N), some (.str (wrd l)), some kd, some d] ++ x) S = some (.nx ([some (.ptr k), some X1, some (.int N), some (.str (wrd l')), some kd, some d] ++ x'), S') ∧ Hd k S' ∧ l'.length = N ∧ x'.length = 8 := by
  match x, hx with
  | [x6, x7, x8, x9, x10, x11, x12, x13], _ =>
  obtain ⟨a, S1, e1, H1, -, a0, a1⟩ := c_draw (n := n) H (N : Int) (by omega) (by omega)
  obtain ⟨b, S2, e2, H2, -, b0, b1⟩ := c_draw (n := n) H1 (N : Int) (by omega) (by omega)
  obtain ⟨u, hu⟩ : ∃ u : Nat, u = (min a b).toNat := ⟨_, rfl⟩
  obtain ⟨v, hv⟩ : ∃ v : Nat, v = (max a b).toNat := ⟨_, rfl⟩
  have mn : oMin2 [.int a, .int b] S2 = some (.int u, S2) := by
    rw [oMin2_eq]
    congr 2
    exact congrArg D.int (by split <;> omega)
  have mx : oMax2 [.int a, .int b] S2 = some (.int v, S2) := by
    rw [oMax2_eq]
    congr 2
    exact congrArg D.int (by split <;> omega)
  generalize callN Lib (n + 1) = c at *
  by_cases h : u < v
  · have hI : (u : Int) < v := by omega
    have c1 := wrd_cut (S := S2) (l := l) (a := u + 1) (b := v) (by omega) (by omega) (by omega)
    have c2 := wrd_take (S := S2) (l := l) u (by omega) (by omega)
    have c3 := wrd_drop (S := S2) (l := l) (v + 1) (by omega) (by omega)
    have hu' : u < l.length := by omega
    have hv' : v < l.length := by omega
    have x1 := oIx_wrd (S := S2) (l := l) (i := u) (b := l[u]) (by omega) (by simp)
    have x2 := oIx_wrd (S := S2) (l := l) (i := v) (b := l[v]) (by omega) (by simp)
    push_cast at c1 c3
    have y1 := oAdd_wrd (S := S2) (l := l.take u) (m := [l[v]]) (by simp; omega)
    have y2 := oAdd_wrd (S := S2) (l := l.take u ++ [l[v]]) (m := (l.drop (u + 1)).take (v - (u + 1))) (by simp; omega)
    have y3 := oAdd_wrd (S := S2) (l := l.take u ++ [l[v]] ++ (l.drop (u + 1)).take (v - (u + 1))) (m := [l[u]]) (by simp; omega)
    have y4 := oAdd_wrd (S := S2) (l := l.take u ++ [l[v]] ++ (l.drop (u + 1)).take (v - (u + 1)) ++ [l[u]]) (m := l.drop (v + 1)) (by simp; omega)
    rw [← sgn_w] at y1 y3
    have fl : (l.take u ++ [l[v]] ++ (l.drop (u + 1)).take (v - (u + 1)) ++ [l[u]] ++ l.drop (v + 1)).length = N := by simp; omega
    refine ⟨_, [some (.int a), some (.int b), some (.int u), some (.int v), some (.str (wrd ((l.drop (u + 1)).take (v - (u + 1))))), some (.str (wrd (l.take u))), some (.str (wrd (l.drop (v + 1)))), x13], S2, ?_, H2, fl, rfl⟩
    generalize l.take u ++ [l[v]] ++ (l.drop (u + 1)).take (v - (u + 1)) ++ [l[u]] ++ l.drop (v + 1) = z5 at *
    generalize wrd (l.take u ++ [l[v]] ++ (l.drop (u + 1)).take (v - (u + 1)) ++ [l[u]]) = z4 at *
    generalize wrd (l.take u ++ [l[v]] ++ (l.drop (u + 1)).take (v - (u + 1))) = z3 at *
    generalize wrd (l.take u ++ [l[v]]) = z2 at *
    generalize wrd ((l.drop (u + 1)).take (v - (u + 1))) = z1 at *
    generalize wrd (l.take u) = z0 at *
    generalize wrd (l.drop (v + 1)) = z6 at *
    simp [w_law_drawn_round_1, e1, e2, -oMin2_eq, -oMax2_eq, mn, mx, h, hI, eCutLU, eCutU, eCutL, ePart, partK, c1, c2, c3, x1, x2, y1, y2, y3, y4]
  · have hI : ¬ (u : Int) < v := by omega
    refine ⟨l, [some (.int a), some (.int b), some (.int u), some (.int v), x10, x11, x12, x13], S2, ?_, H2, hl, rfl⟩
    simp [w_law_drawn_round_1, e1, e2, -oMin2_eq, -oMax2_eq, mn, mx, h, hI]
end
end Q
set_option maxHeartbeats 2000000
namespace Q
open PySem L2
section
variable {n k : Nat} {S : Store}
theorem c_drawn_round (H : Hd k S) (most : Int) (m1 : 1 ≤ most) (m2 : most ≤ 500) : ∃ l S', callN Lib (n + 3) 272 [.ptr k, .int most] S = .ok (.str (wrd l)) S' ∧ Hd k S' ∧ 0 < l.length ∧ l.length ≤ 500 := by
  obtain ⟨v, S1, e1, H1, -, v1⟩ := c_anyi (n := n) H [6, 15, most] (by simp) (by simp) (fun v => 1 ≤ v ∧ v ≤ 500) (fun v hv => by
    simp only [List.mem_cons, List.not_mem_nil, or_false] at hv
    omega)
  obtain ⟨r, S2, e2, H2, -, r0, r1⟩ := c_draw (n := n + 1) H1 v (by omega) (by omega)
  obtain ⟨N, hN⟩ : ∃ N : Nat, N = (1 + r).toNat := ⟨_, rfl⟩
  have hNI : (N : Int) = 1 + r := by omega
  obtain ⟨m, S3, e3, H3, -, m0, m3⟩ := c_draw (n := n + 1) H2 ((N : Int) + 1) (by omega) (by omega)
  obtain ⟨l0, e4, hl0⟩ := c_lround (n := n + 1) (S := S3) (N := N) (m := m) (by omega) (by omega) m0 (by omega)
  obtain ⟨t, S4, e5, H4, -, t0, t1⟩ := c_draw (n := n + 1) H3 (N : Int) (by omega) (by omega)
  obtain ⟨t', rfl⟩ := Int.eq_ofNat_of_zero_le t0
  have e6 : callN Lib (n + 2) 271 [.str (wrd l0), .int t'] S4 = .ok (.str (wrd (rot l0 t'))) S4 := c_lturn (n := n + 1) (by omega) (by omega)
  obtain ⟨kd, S5, e7, H5, -, k0, k1⟩ := c_draw (n := n + 1) H4 5 (by omega) (by omega)
  obtain ⟨l, hl⟩ : ∃ l, l = rot l0 t' := ⟨_, rfl⟩
  have ll : l.length = N := by rw [hl, rot_len, hl0]
  rw [← hl] at e6
  have e1' : callN Lib (n + 2) 233 [.ptr k, .lst [.int 6, .int 15, .int most]] S = .ok (.int v) S1 := e1
  by_cases hk : kd = 0
  · subst hk
    have lc : ∃ rs S', lcL (.nm 13) (eC (.bl true)) (w_law_drawn_round_0 (callN Lib (n + 2))) [some (.ptr k), some (.int most), some (.int N), some (.str (wrd l)), some (.int 0), none, none, none, none, none, none, none, none, none] (rngL 0 (min N 40)) [] S5 = .ok (.lst ([] ++ rs)) S' ∧ Hd k S' ∧ rs.length = (rngL 0 (min N 40)).length ∧ ∀ x ∈ rs, ∃ b, x = .str (sgn b) := by
      refine lc_inv (Hd k) (fun x => ∃ b, x = .str (sgn b)) (rngL 0 (min N 40)) [] S5 (fun d hd T HT => ?_) H5 (by rw [rngL_len, PySem.sizeLine_eq]; simp; omega)
      obtain ⟨x, T1, e, H6, -, mx⟩ := c_any (n := n) HT [.str "0", .str "1"] (by simp) (by simp)
      obtain ⟨b, rfl⟩ : ∃ b, x = .str (sgn b) := by
        simp only [List.mem_cons, List.not_mem_nil, or_false] at mx
        rcases mx with rfl | rfl
        · exact ⟨false, rfl⟩
        · exact ⟨true, rfl⟩
      have e' : callN Lib (n + 2) 233 [.ptr k, .lst [.str "0", .str "1"]] T = .ok (.str (sgn b)) T1 := e
      refine ⟨[some (.ptr k), some (.int most), some (.int N), some (.str (wrd l)), some (.int 0), none, none, none, none, none, none, none, none, some d], rfl, rfl, .str (sgn b), T1, ?_, H6, b, rfl⟩
      clear e
      generalize callN Lib (n + 2) = c at *
      simp [w_law_drawn_round_0, e']
    obtain ⟨rs, S6, e8, H6, hrs, hs⟩ := lc
    obtain ⟨l2, rfl, hll⟩ := of_sgns hs
    have hlm : l2.length = min N 40 := by rw [hll, hrs, rngL_len]
    have jn := oJoin_sgn (S := S6) (l := l2) (by omega)
    have rg := iRng1_nat (m := min N 40) (by omega)
    have mn : oMin2 [.int N, .int 40] S5 = some (.int (min N 40 : Nat), S5) := by
      have e : (if (40 : Int) < N then 40 else (N : Int)) = ((min N 40 : Nat) : Int) := by split <;> omega
      rw [← e]
      rfl
    refine ⟨l2, S6, ?_, H6, by omega, by omega⟩
    rw [callN_eq (d := f_law_drawn_round) rfl]
    clear e1
    generalize callN Lib (n + 2) = c at *
    refine run_keep rfl ?_
    generalize min N 40 = q at *
    rw [List.nil_append] at e8
    simp [b_law_drawn_round, e1', e2, ← hNI, e3, e4, e5, e6, e7, -oMin2_eq, mn, rg, wipeS, e8, isStrD, jn]
  · have mx : oMax2 [.int 0, .int (kd - 2)] S5 = some (.int ((max 0 (kd - 2)).toNat : Nat), S5) := by
      have e : (if kd - 2 > (0 : Int) then kd - 2 else 0) = (((max 0 (kd - 2)).toNat : Nat) : Int) := by split <;> omega
      rw [← e]
      rfl
    have rg := iRng1_nat (m := (max 0 (kd - 2)).toNat) (by omega)
    obtain ⟨s6, S6, e8, ⟨l', x5, x', rfl, hl', hx'⟩, H6⟩ := for_invU (p := .nm 5) (b := w_law_drawn_round_1 (callN Lib (n + 2))) (fun s S => (∃ l x5 x, s = [some (.ptr k), some (.int most), some (.int N), some (.str (wrd l)), some (.int kd), x5] ++ x ∧ l.length = N ∧ x.length = 8) ∧ Hd k S) (rngL 0 (max 0 (kd - 2)).toNat) [some (.ptr k), some (.int most), some (.int N), some (.str (wrd l)), some (.int kd), none, none, none, none, none, none, none, none, none] S5 ⟨⟨l, none, [none, none, none, none, none, none, none, none], rfl, ll, rfl⟩, H5⟩ (fun d hd s T ⟨⟨l, x5, x, hs, hl, hx⟩, HT⟩ => by
      subst hs
      obtain ⟨l', x', T', e, HT', h1, h2⟩ := turn15 (n := n + 1) HT N (by omega) (by omega) (.int most) (.int kd) d l hl x hx
      exact ⟨_, rfl, _, T', e, ⟨l', some d, x', rfl, h1, h2⟩, HT'⟩)
    refine ⟨l', S6, ?_, H6, by omega, by omega⟩
    rw [callN_eq (d := f_law_drawn_round) rfl]
    clear e1
    generalize callN Lib (n + 2) = c at *
    refine run_keep rfl ?_
    generalize (max 0 (kd - 2)).toNat = q at *
    simp [b_law_drawn_round, e1', e2, ← hNI, e3, e4, e5, e6, e7, hk, -oMax2_eq, mx, rg, e8]
theorem oddP (d : D) (h : match d with | .non | .bl _ | .int _ | .tup _ | .lst _ | .dct _ => True | _ => False) : Odd15 d := by
  cases d <;> first | exact h.elim | exact ⟨rfl, rfl⟩
theorem c_lodd15 (H : Hd k S) : ∃ d S', callN Lib (n + 3) 247 [.ptr k] S = .ok d S' ∧ Hd k S' ∧ Odd15 d := by
  obtain ⟨r, S1, e1, H1, -, r0, r1⟩ := c_draw (n := n + 1) H 30 (by omega) (by omega)
  obtain ⟨s2, S2, e2, ⟨d2, x2, rfl, o2⟩, H2⟩ := for_invU (p := .nm 2) (b := w_law_odd_v2_0 (callN Lib (n + 2))) (fun s S => (∃ d x, s = [some (.ptr k), some d, x] ∧ Odd15 d) ∧ Hd k S) (rngL 0 (1 + r).toNat) [some (.ptr k), some (.str "odd"), none] S1 ⟨⟨_, _, rfl, ⟨by decide +kernel, by decide +kernel⟩⟩, H1⟩ (fun x hx s T ⟨⟨d, y, hs, od⟩, HT⟩ => by
    subst hs
    obtain ⟨z, T1, e, HT1, -, z0, z1⟩ := c_draw (n := n + 1) HT 3 (by omega) (by omega)
    obtain ⟨d', hx', od'⟩ : ∃ d', oIx (.lst [.tup [d], .lst [d], .dct [(.inl 0, d)]]) (.int z) T1 = some (d', T1) ∧ Odd15 d' := by
      rcases (show z = 0 ∨ z = 1 ∨ z = 2 by omega) with rfl | rfl | rfl
      · exact ⟨_, oIx_lst (n := 0) rfl, oddP _ trivial⟩
      · exact ⟨_, oIx_lst (n := 1) rfl, oddP _ trivial⟩
      · exact ⟨_, oIx_lst (n := 2) rfl, oddP _ trivial⟩
    refine ⟨_, rfl, [some (.ptr k), some d', some x], T1, ?_, ⟨d', some x, rfl, od'⟩, HT1⟩
    generalize callN Lib (n + 2) = c at *
    simp [w_law_odd_v2_0, e, eDct, pairsD, keyD, nodupK, hx'])
  obtain ⟨d, S3, e3, H3, -, md⟩ := c_any (n := n) H2 [.non, .bl true, .int 0, .int (-1), .str "", .str "012", .str "0 1", .lst [], .dct [], .tup [.str "0"], .lst [.str "0", .str "1"], .tup [.non], .int (10 ^ 11), d2] (by simp) (by simp)
  refine ⟨d, S3, ?_, H3, ?_⟩
  · have rg : iRng1 [.int (1 + r)] = some (rngL 0 (1 + r).toNat) := by
      have := iRng1_nat (m := (1 + r).toNat) (by omega)
      rwa [show (((1 + r).toNat : Nat) : Int) = 1 + r by omega] at this
    have pw : oPow (.int 10) (.int 11) S2 = some (.int (10 ^ 11), S2) := oPow_10 (n := 11)
    rw [callN_eq (d := f_law_odd_v2) rfl]
    have e3' : callN Lib (n + 2) 233 [.ptr k, .lst [.non, .bl true, .int 0, .int (-1), .str "", .str "012", .str "0 1", .lst [], .dct [], .tup [.str "0"], .lst [.str "0", .str "1"], .tup [.non], .int (10 ^ 11), d2]] S2 = .ok d S3 := e3
    clear e3
    generalize callN Lib (n + 2) = c at *
    refine run_keep rfl ?_
    generalize (10 : Int) ^ 11 = big at *
    simp [b_law_odd_v2, e1, rg, e2, eDct, pairsD, nodupK, pw, e3']
  · simp only [List.mem_cons, List.not_mem_nil, or_false] at md
    rcases md with rfl | rfl | rfl | rfl | rfl | rfl | rfl | rfl | rfl | rfl | rfl | rfl | rfl | rfl
    all_goals first | exact oddP _ trivial | exact o2 | exact ⟨by decide +kernel, by decide +kernel⟩
theorem eq_rows : oEq (.lst [.tup [.str "row"], .tup [.str "row"]]) (.lst [.tup [.str "row"], .tup [.str "row"]]) S = some (.bl true, S) := by
  have a1 : PyData.strOk "row" = true := by decide +kernel
  simp [oEq, eqD, pdT, D.pd, pds, SeqAt.shaped, PyData.canLay0, PyData.canLayAll0, PyData.depth, PyData.depthAll, PyData.eqv, PyData.eqvAll, a1]
end
end Q
set_option maxHeartbeats 1000000
namespace Q
open PySem L2
section
variable {n k : Nat} {S : Store}
theorem isN_trip14 (o : Option (Nat × Nat × Nat)) : isN (tripD o) = o.isNone := by
  cases o <;> rfl
theorem c_is_even_round {l : List Bool} (h0 : 0 < l.length) (h1 : l.length ≤ 500) : callN Lib (n + 4) 266 [.str (wrd l)] S = .ok (.bl (roundP l).isNone) S := by
  have e1 : callN Lib (n + 3) 14 [.str (wrd l)] S = .ok (.bl true) S := by
    rw [c_is_row (n := n + 1) _ (thing_wrd (by omega)), show rowD (.str (wrd l)) = true from row_wrd h0 h1]
  have e2 : callN Lib (n + 3) 68 [.str (wrd l)] S = .ok (tripD (roundP l)) S := c_pair_round (n := n + 1) l (by omega)
  have en := isN_trip14 (roundP l)
  rw [callN_eq (d := f_is_even_round) rfl]
  generalize callN Lib (n + 3) = c at *
  refine run_keep rfl ?_
  simp [b_is_even_round, e1, e2, en]
theorem c_is_even_round_no {d : D} (h : thingOk d = true) (hr : rowD d = false) : callN Lib (n + 4) 266 [d] S = .ok (.bl false) S := by
  have e1 : callN Lib (n + 3) 14 [d] S = .ok (.bl false) S := by
    rw [c_is_row (n := n + 1) _ h, hr]
  rw [callN_eq (d := f_is_even_round) rfl]
  generalize callN Lib (n + 3) = c at *
  refine run_keep rfl ?_
  simp [b_is_even_round, e1]
theorem c_row_right14 {l : List Bool} (h0 : 0 < l.length) (h1 : l.length ≤ 500) : callN Lib (n + 9) 276 [.str (wrd l)] S = .ok (.bl true) S := by
  have q1 : callN Lib (n + 8) 270 [.str (wrd l)] S = .ok (tripD (roundP l)) S := c_lfirst_pair (n := n + 6) l (by omega)
  have q2 : callN Lib (n + 8) 267 [.str (wrd l)] S = .ok (tripD (roundP l)) S := c_round_pair (n := n + 4) h0 h1
  have q3 : callN Lib (n + 8) 266 [.str (wrd l)] S = .ok (.bl (roundP l).isNone) S := c_is_even_round (n := n + 4) h0 h1
  have q4 : ∀ b : Bool, callN Lib (n + 8) 234 [.lst [.bl b, .bl b], .lst [.bl b, .bl b]] S = .ok (.bl true) S := fun b => same_refl 1 _ (by simp [plainD]) (n + 6) S
  have en := isN_trip14 (roundP l)
  cases hr : roundP l with
  | some x =>
    rw [hr] at q1 q2 q3 en
    rw [callN_eq (d := f_law_is_row_right) rfl]
    generalize callN Lib (n + 8) = c at *
    refine run_keep rfl ?_
    simp only [Option.isNone_some] at *
    generalize tripD (some x) = t at *
    simp [b_law_is_row_right, q1, q2, q3, q4, en]
  | none =>
    have B := roundP_none.mp hr
    have le := least_of h0 B
    have q5 : callN Lib (n + 8) 59 [.str (wrd l)] S = .ok (.bl true) S := by
      have := c_is_even (n := n + 5) (S := S) h0 h1
      rwa [firstP_none.mpr (bal_of_round B)] at this
    have q6 : callN Lib (n + 8) 107 [.str (wrd l)] S = .ok (.str (wrd (l.map (!·)))) S := c_complement (n := n + 4) h0 h1
    have q7 : callN Lib (n + 8) 108 [.str (wrd l)] S = .ok (.str (wrd l.reverse)) S := c_mirrored (n := n + 4) h0 h1
    have q8 : callN Lib (n + 8) 266 [.str (wrd (l.map (!·)))] S = .ok (.bl true) S := by
      have := c_is_even_round (n := n + 4) (S := S) (l := l.map (!·)) (by simpa using h0) (by simpa using h1)
      rwa [roundP_none.mpr (round_not B)] at this
    have q9 : callN Lib (n + 8) 266 [.str (wrd l.reverse)] S = .ok (.bl true) S := by
      have := c_is_even_round (n := n + 4) (S := S) (l := l.reverse) (by simpa using h0) (by simpa using h1)
      rwa [roundP_none.mpr (round_rev B)] at this
    have q10 : callN Lib (n + 8) 234 [.lst [.bl true, .bl true, .bl true], .lst [.bl true, .bl true, .bl true]] S = .ok (.bl true) S := same_refl 1 _ (by simp [plainD]) (n + 6) S
    have oL := oLen_wrd (S := S) (l := l) (by omega)
    obtain ⟨L, hL⟩ : ∃ L, L = mech l.length (cnt l l.length) 0 := ⟨_, rfl⟩
    have cw : oCount [.str (wrd l), .str "1"] S = some (.int (cnt l l.length), S) := by
      have e : cnt l l.length = ((l.count true : Nat) : Int) := by unfold cnt; rw [List.take_length]
      have := count_wrd l
      simp [oCount, this, e]
    have q11 : callN Lib (n + 8) 70 [.int l.length, .int (cnt l l.length)] S = .ok (.str (wrd L)) S := by rw [hL]; exact c_least_round (n := n + 4) h0 h1 (cnt_nn _ _) (cnt_le_len l)
    have rg := iRng1_nat (m := l.length) (by omega)
    have l1 : ∀ (s : Sl), s[0]? = some (some (.str (wrd l))) → 5 < s.length → lcL (.nm 5) (eC (.bl true)) (w_law_is_row_right_0 (callN Lib (n + 8))) s (rngL 0 l.length) [] S = .ok (.lst (((List.range l.length).map fun i => wrd (rot l i)).map .str)) S := fun s hs h7 => by
      rw [lc_rng (fun i => .str (wrd (rot l i))) (fun i hi => ⟨rfl, by
        have : callN Lib (n + 8) 271 [.str (wrd l), .int i] S = .ok (.str (wrd (rot l i))) S := c_lturn (n := n + 7) (by omega) hi
        have hs0 : (s.set 5 (some (D.int i)))[0]? = some (some (.str (wrd l))) := by rw [List.getElem?_set_ne (by decide)]; exact hs
        simp [w_law_is_row_right_0, hs0, h7, this]⟩) (by omega), List.map_map]
      rfl
    have mn : oMinS [.lst (((List.range l.length).map fun i => wrd (rot l i)).map .str)] S = some (.str (wrd L), S) := by
      have hne : ∃ x xs, (List.range l.length).map (fun i => wrd (rot l i)) = x :: xs := by
        cases hx : (List.range l.length).map (fun i => wrd (rot l i)) with
        | nil =>
          have := congrArg List.length hx
          rw [List.length_map, List.length_range] at this
          simp only [List.length_nil] at this
          omega
        | cons x xs => exact ⟨x, xs, rfl⟩
      obtain ⟨x, xs, hx⟩ := hne
      have e := minS_least xs x (wrd L) (by
        rw [← hx]
        obtain ⟨i, hi, e⟩ := le.at_
        exact List.mem_map.mpr ⟨i, List.mem_range.mpr hi, by rw [e, hL]⟩) (by
        rw [← hx]
        intro y hy
        obtain ⟨i, hi, rfl⟩ := List.mem_map.mp hy
        have := le.le i
        rw [← hL] at this
        simpa [wrd] using this)
      rw [hx]
      unfold oMinS
      simp only [itemsL, strsOf_map, e]
    have q12 : callN Lib (n + 8) 234 [.str (wrd L), .str (wrd L)] S = .ok (.bl true) S := c_same_str _
    have m3 : oMulL (.lst [.bl true]) (.int 3) S = some (.lst [.bl true, .bl true, .bl true], S) := by
      have : 3 ≤ sizeLine := by rw [PySem.sizeLine_eq]; omega
      simp [oMulL, this]
    rw [hr] at q1 q2 q3 en
    have l1' := l1 [some (.str (wrd l)), some (.bl true), some (.int l.length), some (.int (cnt l l.length)), some (.str (wrd L)), none] rfl (by simp)
    clear l1
    rw [callN_eq (d := f_law_is_row_right) rfl]
    generalize callN Lib (n + 8) = c at *
    refine run_keep rfl ?_
    simp only [Option.isNone_none] at *
    generalize tripD none = t at *
    generalize D.lst (((List.range l.length).map fun i => wrd (rot l i)).map .str) = T at *
    generalize wrd (l.map (!·)) = w1 at *
    generalize wrd l.reverse = w2 at *
    simp [b_law_is_row_right, q1, q2, q3, q4, en, q5, q6, q7, q8, q9, m3, q10, oL, isStrD, cw, q11, rg, wipeS, l1', mn, q12]
end
end Q
set_option maxHeartbeats 1000000
namespace Q
open PySem L2
def words : Nat → List (List Bool)
  | 0 => [[]]
  | m + 1 => (words m).map (· ++ [false]) ++ (words m).map (· ++ [true])
theorem words_len : ∀ m, (words m).length = 2 ^ m
  | 0 => rfl
  | m + 1 => by simp [words, words_len m, Nat.pow_succ]; omega
theorem word_len : ∀ m, ∀ l ∈ words m, l.length = m
  | 0, l, h => by
    simp only [words, List.mem_singleton] at h
    simp [h]
  | m + 1, l, h => by
    simp only [words, List.mem_append, List.mem_map] at h
    rcases h with ⟨x, hx, rfl⟩ | ⟨x, hx, rfl⟩ <;> simp [word_len m x hx]
theorem for_fold {α β : Type} {p : Pat} {b : TSt} (g : α → D) (F : β → Store) (f : β → α → β) (I : Nat → Sl → β → Prop) (N : Nat) : ∀ (xs : List α) (i : Nat) (s : Sl) (y : β), i + xs.length ≤ N → I i s y → (∀ x ∈ xs, ∀ i s y, i < N → I i s y → ∃ s1, p.put (g x) s = some s1 ∧ ∃ s2, b s1 (F y) = some (.nx s2, F (f y x)) ∧ I (i + 1) s2 (f y x)) →
    ∃ s', forL p b (xs.map g) s (F y) = some (.nx s', F (xs.foldl f y)) ∧ I (i + xs.length) s' (xs.foldl f y)
  | [], i, s, y, _, h, _ => ⟨s, rfl, h⟩
  | x :: xs, i, s, y, hN, h, hb => by
    rw [List.length_cons] at hN
    obtain ⟨s1, e1, s2, e2, h2⟩ := hb x List.mem_cons_self i s y (by omega) h
    obtain ⟨s', e3, h3⟩ := for_fold g F f I N xs (i + 1) s2 (f y x) (by omega) h2 fun x' hx => hb x' (List.mem_cons_of_mem _ hx)
    refine ⟨s', ?_, by rw [List.length_cons, List.foldl_cons, show i + (xs.length + 1) = i + 1 + xs.length by omega]; exact h3⟩
    rw [List.map_cons, List.foldl_cons]
    unfold forL
    simp only [e1, e2]
    exact e3
def wD (l : List Bool) : D := .str (wrd l)
section
variable {n k : Nat} {S : Store}
theorem flat_wD (l : List (List Bool)) : (l.map wD).all flatD = true := by simp [List.all_eq_true, wD, flatD]
theorem any_wD (acc : List (List Bool)) (w : List Bool) : ((acc.map wD).any fun z => eqF z (wD w)) = decide (w ∈ acc) := by
  rw [Bool.eq_iff_iff]
  simp only [List.any_map, List.any_eq_true, decide_eq_true_eq, Function.comp_apply]
  constructor
  · rintro ⟨x, hx, h⟩
    have : wrd x = wrd w := by simpa [wD, eqF] using h
    rw [← wrd_inj this]
    exact hx
  · intro h
    exact ⟨w, h, by simp [wD, eqF]⟩
theorem nin_at {acc : List (List Bool)} {w : List Bool} {j : Nat} (h : j = S.L.length) : oNin (.str (wrd w)) (.ptr j) (S.new (acc.map wD)) = some (.bl (!decide (w ∈ acc)), S.new (acc.map wD)) := by
  have e1 : itemsLT (S.new (acc.map wD)) (.ptr j) = some (acc.map wD) := by simp [itemsLT, itemsL, new_get_at h]
  unfold oNin inD
  simp only [e1, flat_wD, flatD, Bool.and_self, if_true]
  rw [show ((acc.map wD).any fun z => eqF z (.str (wrd w))) = decide (w ∈ acc) from any_wD acc w]
theorem strs_wD : ∀ l : List (List Bool), strsOf (l.map wD) = some (l.map wrd)
  | [] => rfl
  | x :: l => by simp [strsOf, wD, strs_wD l]
theorem ints_wD {l : List (List Bool)} (h : l ≠ []) : intsOf (l.map wD) = none := by
  cases l with
  | nil => exact absurd rfl h
  | cons x l => simp [intsOf, wD]
theorem sorted_wD {l : List (List Bool)} (h : l ≠ []) (h2 : l.length < 64) : oSortedI [.lst (l.map wD)] S = some (.lst ((srtS (l.map wrd)).map .str), S) := by
  simp [oSortedI, itemsL, sortD, ints_wD h, strs_wD, h2]
theorem srtS_perm {a b : List Str} (h : a.Perm b) : srtS a = srtS b := srtS_uniq ((List.mergeSort_perm a _).trans h) (srtS_sorted a)
theorem pds_str : ∀ xs : List Str, pds (xs.map .str) = some (xs.map .str)
  | [] => rfl
  | x :: xs => by simp [pds, D.pd, pds_str xs]
theorem eqv_str : ∀ xs : List Str, PyData.eqvAll (xs.map .str) (xs.map .str) = true
  | [] => rfl
  | x :: xs => by simp [PyData.eqvAll, PyData.eqv, eqv_str xs]
theorem dep_str : ∀ xs : List Str, PyData.depthAll (xs.map .str) = 0
  | [] => rfl
  | x :: xs => by simp [PyData.depthAll, PyData.depth, dep_str xs]
theorem lay_str : ∀ xs : List Str, (∀ x ∈ xs, PyData.strOk x = true) → PyData.canLayAll0 (xs.map .str) = true
  | [], _ => rfl
  | x :: xs, h => by simp [PyData.canLayAll0, PyData.canLay0, h x List.mem_cons_self, lay_str xs fun y hy => h y (List.mem_cons_of_mem _ hy)]
theorem oEq_strs (xs : List Str) (h : ∀ x ∈ xs, PyData.strOk x = true) : oEq (.lst (xs.map .str)) (.lst (xs.map .str)) S = some (.bl true, S) := by
  simp [oEq, eqD, pdT, D.pd, pds_str, SeqAt.shaped, PyData.canLay0, lay_str xs h, PyData.depth, dep_str, PyData.eqv, eqv_str]
theorem wrd_ok (l : List Bool) : PyData.strOk (wrd l) = true := by
  unfold PyData.strOk wrd
  rw [List.all_toArray, List.all_eq_true]
  intro c hc
  obtain ⟨b, -, rfl⟩ := List.mem_map.mp hc
  cases b <;> decide +kernel
theorem srtS_ok {l : List (List Bool)} {x : Str} (h : x ∈ srtS (l.map wrd)) : PyData.strOk x = true := by
  have := (List.mergeSort_perm (l.map wrd) fun a b => decide (a.cps.toList ≤ b.cps.toList)).mem_iff.mp h
  obtain ⟨y, -, rfl⟩ := List.mem_map.mp this
  exact wrd_ok y
end
end Q
set_option maxHeartbeats 1000000
namespace Q
open PySem L2
def evR (m : Nat) : List (List Bool) := (words m).filter fun l => (roundP l).isNone
def someR (m k : Nat) : List (List Bool) := (evR m).filter fun l => decide (l.count true = k)
def chkR (m : Nat) : Bool := decide ((evR m).length < 64) && !(evR m).isEmpty && (List.range (m + 1)).all fun k => match someR m k with
  | [] => false
  | x :: xs => decide (minS (wrd x) (xs.map wrd) = wrd (mech m k 0)) && decide ((someR m k).length = m / Nat.gcd m k)
theorem chkR_ok : ∀ m, m < 8 → 0 < m → chkR m = true := by
  decide +kernel
section
variable {n k : Nat} {S : Store}
theorem lc_add14 (c : CallT) (s : Sl) (hs : 3 < s.length) (rows : List (List Bool)) (hr : rows.length ≤ 1000) (h : ∀ l ∈ rows, l.length ≤ 100) :
    lcL (.nm 3) (eC (.bl true)) (w_law_all_rows_0 c) s (rows.map wD) [] S = .ok (.lst (rows.map fun l => wD (l ++ [false]))) S ∧ lcL (.nm 3) (eC (.bl true)) (w_law_all_rows_1 c) s (rows.map wD) [] S = .ok (.lst (rows.map fun l => wD (l ++ [true]))) S := by
  have hz : ([] : List D).length + (rows.map wD).length ≤ sizeLine := by rw [PySem.sizeLine_eq]; simp; omega
  constructor
  · rw [lc_map (fun d => match d with | .str z => .str (z ++ wrd [false]) | d => d) (rows.map wD) [] (fun d hd => by
      obtain ⟨l, hl, rfl⟩ := List.mem_map.mp hd
      have e := oAdd_wrd (S := S) (l := l) (m := [false]) (by have := h l hl; simp; omega)
      have e' : oAdd (.str (wrd l)) (.str "0") S = some (.str (wrd (l ++ [false])), S) := e
      simp [w_law_all_rows_0, hs, wD, e', wrd_app]) hz]
    simp [wD, wrd_app]
  · rw [lc_map (fun d => match d with | .str z => .str (z ++ wrd [true]) | d => d) (rows.map wD) [] (fun d hd => by
      obtain ⟨l, hl, rfl⟩ := List.mem_map.mp hd
      have e := oAdd_wrd (S := S) (l := l) (m := [true]) (by have := h l hl; simp; omega)
      have e' : oAdd (.str (wrd l)) (.str "1") S = some (.str (wrd (l ++ [true])), S) := e
      simp [w_law_all_rows_1, hs, wD, e', wrd_app]) hz]
    simp [wD, wrd_app]
theorem c_all_rows (m : Nat) (hm : m ≤ 7) : callN Lib (n + 1) 274 [.int m] S = .ok (.lst ((words m).map wD)) S := by
  obtain ⟨s', e, x, y, rfl, hy⟩ := for_fold (p := .nm 2) (b := w_law_all_rows_2 (callN Lib n)) (fun (i : Nat) => D.int (0 + (i : Int))) (fun _ => S) (fun (y : List (List Bool)) _ => y.map (· ++ [false]) ++ y.map (· ++ [true])) (fun i s y => ∃ x z, s = [some (.int m), some (.lst (y.map wD)), x, z] ∧ y = words i) m (List.range m) 0 [some (.int m), some (.lst ((words 0).map wD)), none, none] (words 0) (by simp) ⟨none, none, rfl, rfl⟩ (fun x hx i s y hi ⟨u, v, hs, hy⟩ => by
    subst hs
    subst hy
    refine ⟨_, rfl, [some (.int m), some (.lst ((words (i + 1)).map wD)), some (.int (0 + (x : Int))), v], ?_, _, _, rfl, rfl⟩
    have l1 : (words i).length ≤ 128 := by
      rw [words_len]
      exact Nat.pow_le_pow_right (by omega) (show i ≤ 7 by omega)
    have l2 : ∀ l ∈ words i, l.length ≤ 100 := fun l hl => by rw [word_len i l hl]; omega
    have e := lc_add14 (S := S) (callN Lib n) [some (.int m), some (.lst ((words i).map wD)), some (.int (0 + (x : Int))), none] (by simp) (words i) (by omega) l2
    have e3 : oAdd (.lst ((words i).map fun l => wD (l ++ [false]))) (.lst ((words i).map fun l => wD (l ++ [true]))) S = some (.lst ((words (i + 1)).map wD), S) := by
      have : ((words i).map fun l => wD (l ++ [false])).length + ((words i).map fun l => wD (l ++ [true])).length ≤ sizeLine := by rw [PySem.sizeLine_eq]; simp; omega
      show (if ((words i).map fun l => wD (l ++ [false])).length + ((words i).map fun l => wD (l ++ [true])).length ≤ sizeLine then some (D.lst (_ ++ _), S) else none) = _
      rw [if_pos this]
      simp [words]
      rfl
    generalize callN Lib n = c at *
    generalize hA : (words i).map wD = A at *
    generalize (words i).map (fun l => wD (l ++ [false])) = B at *
    generalize (words i).map (fun l => wD (l ++ [true])) = C at *
    generalize (words (i + 1)).map wD = E at *
    have e1 := e.1
    have e2 := e.2
    simp at e1 e2
    simp [w_law_all_rows_2, sSeq, wipeS, e1, e2, e3])
  have hz : words (0 + (List.range m).length) = words m := by simp
  rw [hz] at hy
  rw [hy] at e
  have rg := iRng1_nat (m := m) (by omega)
  rw [callN_eq (d := f_law_all_rows) rfl]
  generalize callN Lib n = c at *
  refine run_keep rfl ?_
  have e' : forL (.nm 2) (w_law_all_rows_2 c) (rngL 0 m) [some (.int m), some (.lst [.str ""]), none, none] S = some (.nx [some (.int m), some (.lst ((words m).map wD)), x, y], S) := e
  clear e
  generalize (words m).map wD = A at *
  simp [b_law_all_rows, rg, e']
theorem lc_keep {t e : TE} {s : Sl} (ls : List (List Bool)) (P : List Bool → Bool) (hl : ls.length ≤ 1000) (h : ∀ l ∈ ls, t (s.set 6 (some (wD l))) S = .ok (.bl (P l)) S ∧ e (s.set 6 (some (wD l))) S = .ok (wD l) S) : lcL (.nm 6) t e s (ls.map wD) [] S = .ok (.lst ((ls.filter P).map wD)) S := by
  rw [lc_filtR (fun d => match d with | .str z => P (z.cps.toList.map fun c => c == 49) | _ => false) (fun d => d)]
  · have key : ∀ l : List Bool, ((wrd l).cps.toList.map fun c => c == 49) = l := fun l => by
      unfold wrd
      simp only [List.map_map]
      have : ((fun c => c == 49) ∘ bit) = id := by
        funext b
        cases b <;> rfl
      rw [this, List.map_id]
    simp only [List.nil_append, List.map_id', List.filter_map]
    refine congrArg (fun z => Res.ok (D.lst (z.map wD)) S) (List.filter_congr fun l _ => ?_)
    simp [wD, key]
  · intro d hd
    obtain ⟨l, hl, rfl⟩ := List.mem_map.mp hd
    have key : ((wrd l).cps.toList.map fun c => c == 49) = l := by
      unfold wrd
      simp only [List.map_map]
      have : ((fun c => c == 49) ∘ bit) = id := by
        funext b
        cases b <;> rfl
      rw [this, List.map_id]
    obtain ⟨h1, h2⟩ := h l hl
    exact ⟨_, rfl, by simpa [wD, key] using h1, fun _ => h2⟩
  · rw [PySem.sizeLine_eq]; simp; omega
theorem gcd14 (c : CallT) (X0 : D) (X1 X2 X3 X6 : Option D) : ∀ (m x y : Nat), y ≤ m → ∃ k, k ≤ m + 1 ∧ whL (e2 oGt (eV 5) (eC (.int 0))) (w_law_are_small_right_3 c) k [some X0, X1, X2, X3, some (.int x), some (.int y), X6] S = some (.nx [some X0, X1, X2, X3, some (.int (Nat.gcd x y : Nat)), some (.int 0), X6], S) := by
  intro m
  induction m with
  | zero =>
    intro x y hy
    obtain rfl : y = 0 := by omega
    refine ⟨1, by omega, ?_⟩
    simp [whL]
  | succ m ih =>
    intro x y hy
    by_cases h0 : y = 0
    · subst h0
      refine ⟨1, by omega, ?_⟩
      simp [whL]
    · have hlt : x % y < y := Nat.mod_lt _ (by omega)
      obtain ⟨k, hk, e⟩ := ih y (x % y) (by omega)
      refine ⟨k + 1, by omega, ?_⟩
      have hp : (0 : Int) < (y : Int) := by omega
      have h1 : 0 < y := by omega
      have e2 : ((x : Int) % (y : Int)) = ((x % y : Nat) : Int) := by simp
      have g : Nat.gcd y (x % y) = Nat.gcd x y := by rw [Nat.gcd_comm y (x % y), ← Nat.gcd_rec y x, Nat.gcd_comm y x]
      rw [g] at e
      have tv : (Q.e2 oGt (eV 5) (eC (.int 0))) [some X0, X1, X2, X3, some (.int x), some (.int y), X6] S = .ok (.bl true) S := by simp [hp, h1]
      have bv : w_law_are_small_right_3 c [some X0, X1, X2, X3, some (.int x), some (.int y), X6] S = some (.nx [some X0, X1, X2, X3, some (.int y), some (.int (x % y : Nat)), X6], S) := by
        simp [w_law_are_small_right_3, oMod_pos hp]
      unfold whL
      rw [tv]
      simp only [onE_ok', asBS_bl', if_true, bv]
      exact e
theorem c_small_right (m : Nat) (h0 : 0 < m) (hm : m ≤ 7) : callN Lib (n + 6) 275 [.int m] S = .ok (.bl true) S := by
  have ck := chkR_ok m (by omega) h0
  unfold chkR at ck
  simp only [Bool.and_eq_true, decide_eq_true_eq, Bool.not_eq_true', List.all_eq_true, List.mem_range] at ck
  obtain ⟨⟨c1, c2⟩, c3⟩ := ck
  have ne : evR m ≠ [] := fun z => by rw [z] at c2; cases c2
  have aw : ∀ S, callN Lib (n + 5) 274 [.int m] S = .ok (.lst ((words m).map wD)) S := fun S => c_all_rows (n := n + 4) m hm
  have l1 : (words m).length ≤ 128 := by
    rw [words_len]
    exact Nat.pow_le_pow_right (by omega) hm
  have fp : ∀ l ∈ words m, callN Lib (n + 5) 270 [.str (wrd l)] S = .ok (tripD (roundP l)) S := fun l hl => c_lfirst_pair (n := n + 3) l (by rw [word_len m l hl]; omega)
  have er : ∀ l ∈ words m, callN Lib (n + 5) 266 [.str (wrd l)] S = .ok (.bl (roundP l).isNone) S := fun l hl => c_is_even_round (n := n + 1) (by rw [word_len m l hl]; exact h0) (by rw [word_len m l hl]; omega)
  have f1 : ∀ s : Sl, 6 < s.length → lcL (.nm 6) (e1 oIsN (eCall (callN Lib (n + 5)) 270 [eV 6])) (w_law_are_small_right_0 (callN Lib (n + 5))) s ((words m).map wD) [] S = .ok (.lst ((evR m).map wD)) S := fun s hs => lc_keep (words m) (fun l => (roundP l).isNone) (by omega) fun l hl => by
    have := fp l hl
    have en := isN_trip14 (roundP l)
    generalize callN Lib (n + 5) = c at *
    exact ⟨by simp [wD, hs, this, en], by simp [w_law_are_small_right_0, hs]⟩
  have f2 : ∀ s : Sl, 6 < s.length → lcL (.nm 6) (e1 (oIsB true) (eCall (callN Lib (n + 5)) 266 [eV 6])) (w_law_are_small_right_1 (callN Lib (n + 5))) s ((words m).map wD) [] S = .ok (.lst ((evR m).map wD)) S := fun s hs => lc_keep (words m) (fun l => (roundP l).isNone) (by omega) fun l hl => by
    have := er l hl
    generalize callN Lib (n + 5) = c at *
    exact ⟨by simp [wD, hs, this, oIsB], by simp [w_law_are_small_right_1, hs]⟩
  have so := sorted_wD (S := S) ne c1
  have oe := oEq_strs (S := S) (srtS ((evR m).map wrd)) fun x hx => srtS_ok hx
  have on : oNe (.lst ((srtS ((evR m).map wrd)).map .str)) (.lst ((srtS ((evR m).map wrd)).map .str)) S = some (.bl false, S) := by
    unfold oEq at oe
    unfold oNe
    cases h : eqD (.lst ((srtS ((evR m).map wrd)).map .str)) (.lst ((srtS ((evR m).map wrd)).map .str)) S with
    | none => rw [h] at oe; cases oe
    | some b =>
      rw [h] at oe
      cases oe
      rfl
  obtain ⟨s2, S2, e2, ⟨x2, x3, x4, x5, x6, rfl⟩, rfl⟩ := for_invU (p := .nm 2) (b := w_law_are_small_right_4 (callN Lib (n + 5))) (fun s T => (∃ x2 x3 x4 x5 x6, s = [some (.int m), some (.lst ((evR m).map wD)), x2, x3, x4, x5, x6]) ∧ T = S) (rngL 0 (m + 1)) [some (.int m), some (.lst ((evR m).map wD)), none, none, none, none, none] S ⟨⟨none, none, none, none, none, rfl⟩, rfl⟩ (fun d hd s T ⟨⟨x2, x3, x4, x5, x6, hs⟩, hT⟩ => by
    subst hs hT
    obtain ⟨i, hi, rfl⟩ := rngL_mem hd
    rw [Int.zero_add]
    have c4 := c3 i hi
    have f3 : lcL (.nm 6) (e2 oEq (eM isStrD oCount (eV 6) [eC (.str "1")]) (eV 2)) (w_law_are_small_right_2 (callN Lib (n + 5))) [some (.int m), some (.lst ((evR m).map wD)), some (.int i), x3, x4, x5, none] ((evR m).map wD) [] T = .ok (.lst ((someR m i).map wD)) T := lc_keep (evR m) (fun l => decide (l.count true = i)) (by omega) fun l hl => by
      have cw : oCount [.str (wrd l), .str "1"] T = some (.int (l.count true : Nat), T) := by
        simp [oCount, count_wrd]
      generalize callN Lib (n + 5) = c at *
      refine ⟨?_, by simp [w_law_are_small_right_2]⟩
      have : decide (((l.count true : Nat) : Int) = (i : Int)) = decide (l.count true = i) := by
        rw [Bool.eq_iff_iff]
        simp
        omega
      simp only [← this]
      simp [wD, isStrD, cw]
    have lr : callN Lib (n + 5) 70 [.int m, .int i] T = .ok (.str (wrd (mech m i 0))) T := c_least_round (n := n + 1) h0 (by omega) (by omega) (by omega)
    cases hso : someR m i with
    | nil => rw [hso] at c4; cases c4
    | cons w ws =>
      rw [hso] at c4 f3
      simp only [Bool.and_eq_true, decide_eq_true_eq] at c4
      obtain ⟨c5, c6⟩ := c4
      have mn : oMinS [.lst ((w :: ws).map wD)] T = some (.str (wrd (mech m i 0)), T) := by
        unfold oMinS
        simp only [itemsL, strs_wD]
        simp only [List.map_cons, c5]
      obtain ⟨kk, hk, gw⟩ := gcd14 (S := T) (callN Lib (n + 5)) (.int m) (some (.lst ((evR m).map wD))) (some (.int i)) (some (.lst ((w :: ws).map wD))) x6 i m i (Nat.le_refl _)
      have gw2 := fun X6 => gcd14 (S := T) (callN Lib (n + 5)) (.int m) (some (.lst ((evR m).map wD))) (some (.int i)) (some (.lst ((w :: ws).map wD))) X6 i m i (Nat.le_refl _)
      have wl : ∀ X6, tWhile (e2 oGt (eV 5) (eC (.int 0))) (w_law_are_small_right_3 (callN Lib (n + 5))) [some (.int m), some (.lst ((evR m).map wD)), some (.int i), some (.lst ((w :: ws).map wD)), some (.int m), some (.int i), X6] T = some (.nx [some (.int m), some (.lst ((evR m).map wD)), some (.int i), some (.lst ((w :: ws).map wD)), some (.int (Nat.gcd m i : Nat)), some (.int 0), X6], T) := fun X6 => by
        obtain ⟨kk, hk, gw⟩ := gw2 X6
        exact while_of gw (by show kk ≤ 2 ^ 60; omega)
      have gp : 0 < Nat.gcd m i := Nat.gcd_pos_of_pos_left _ h0
      have gl : Nat.gcd m i ≤ m := Nat.gcd_le_left _ h0
      have dv : oDiv (.int m) (.int (Nat.gcd m i : Nat)) T = some (.int ((m / Nat.gcd m i : Nat) : Int), T) := by
        rw [oDiv_62 (by omega) (by omega)]
        simp
      have ln : oLen [.lst ((w :: ws).map wD)] T = some (.int ((m / Nat.gcd m i : Nat) : Int), T) := by
        rw [oLen_lst, List.length_map, c6]
      have nn : oNe (.str (wrd (mech m i 0))) (.str (wrd (mech m i 0))) T = some (.bl false, T) := by simp
      clear gw gw2 fp er f1 f2 aw
      generalize callN Lib (n + 5) = c at *
      generalize (w :: ws).map wD = A at *
      generalize (evR m).map wD = B at *
      generalize mech m i 0 = M at *
      generalize Nat.gcd m i = g at *
      generalize m / g = qq at *
      refine ⟨_, rfl, [some (.int m), some (.lst B), some (.int i), some (.lst A), some (.int g), some (.int 0), x6], T, ?_, ⟨_, _, _, _, _, rfl⟩, rfl⟩
      have wl' := wl x6
      simp [w_law_are_small_right_4, -oLen_lst, sSeq, wipeS, f3, lr, mn, wl', ln, dv])
  have rg : iRng1 [.int ((m : Int) + 1)] = some (rngL 0 (m + 1)) := iRng1_nat (m := m + 1) (by omega)
  rw [callN_eq (d := f_law_are_small_right) rfl]
  have f1' := f1 [some (.int m), none, none, none, none, none, none] (by simp)
  have f2' := f2 [some (.int m), some (.lst ((evR m).map wD)), none, none, none, none, none] (by simp)
  clear f1 f2 fp er c3 oe
  generalize callN Lib (n + 5) = c at *
  refine run_keep rfl ?_
  generalize (words m).map wD = W at *
  generalize (evR m).map wD = B at *
  generalize (srtS ((evR m).map wrd)).map D.str = Z at *
  simp [b_law_are_small_right, sSeq, wipeS, aw, f1', f2', so, on, rg, e2]
end
end Q
set_option maxHeartbeats 1000000
namespace Q
open PySem L2
section
variable {n k : Nat} {S : Store}
theorem word_told {c : CallT} {te : TE} {s : Sl} {d : D} {S' : Store} (e : te s S = .ok d S') (hf : d.flat = true) : eTold true 1 (b_law_word c) te s S = .ok (.str "told") S' := by
  simp [eTold, b_law_word, tTryAs, eAct, flatR, e, hf]
theorem word_number {c : CallT} {te : TE} {s : Sl} {S' : Store} (e : te s S = .ex ⟨3, []⟩ S') : eTold true 1 (b_law_word c) te s S = .ok (.str "number") S' := by
  simp [eTold, b_law_word, tTryAs, eAct, flatR, e, isSub, flats, oIsE]
theorem c_least_round_no {d e : D} (h : callN Lib (n + 3) 2 [d, .int 1, .int 500] S = .ok (.bl false) S) : callN Lib (n + 4) 70 [d, e] S = .ex ⟨3, []⟩ S := by
  rw [callN_eq (d := f_least_round) rfl]
  generalize callN Lib (n + 3) = c at *
  refine run_ex (s' := [some d, some e]) rfl ?_
  simp [b_least_round, h]
end
end Q
set_option maxHeartbeats 2000000
namespace Q
open PySem L2
def noDay : D → Bool
  | .non => true
  | .bl _ => true
  | .int i => decide (i < 1 ∨ 500 < i)
  | .str z => PyData.strOk z
  | .tup _ => true
  | .lst _ => true
  | .dct _ => true
  | _ => false
section
variable {n k : Nat} {S : Store}
theorem noDay_within {d : D} (h : noDay d = true) : callN Lib (n + 3) 2 [d, .int 1, .int 500] S = .ok (.bl false) S := by
  cases d with
  | int i =>
    rw [c_is_within (n := n + 1)]
    have : i < 1 ∨ 500 < i := by simpa [noDay] using h
    rw [decide_eq_false (by omega)]
  | non => exact c_not_within (n := n + 1) _ _ _ rfl
  | bl b => exact c_not_within (n := n + 1) _ _ _ rfl
  | str b => exact c_not_within (n := n + 1) _ _ _ rfl
  | tup b => exact c_not_within (n := n + 1) _ _ _ rfl
  | lst b => exact c_not_within (n := n + 1) _ _ _ rfl
  | dct b => exact c_not_within (n := n + 1) _ _ _ rfl
  | _ => cases h
theorem oEqK_int {i j : Int} : oEqK (.int i) (.int j) S = some (.bl (decide (i = j)), S) := rfl
theorem noDay_ne {d : D} (h : noDay d = true) : oEqK d (.int 7) S = some (.bl false, S) := by
  cases d with
  | int i =>
    have : i < 1 ∨ 500 < i := by simpa [noDay] using h
    show oEq (.int i) (.int 7) S = _
    rw [oEq_int, decide_eq_false (by omega)]
  | non => simp [oEqK, oEq, eqD, pdT, D.pd, SeqAt.shaped, PyData.canLay0, PyData.depth, PyData.eqv]
  | bl b => cases b <;> simp [oEqK, oEq, eqD, pdT, D.pd, SeqAt.shaped, PyData.canLay0, PyData.depth, PyData.eqv]
  | str b =>
    have : PyData.strOk b = true := h
    simp [oEqK, oEq, eqD, pdT, D.pd, SeqAt.shaped, PyData.canLay0, PyData.depth, PyData.eqv, this]
  | tup b => rfl
  | lst b => rfl
  | dct b => rfl
  | _ => cases h
theorem c_least_round_no2 {e : D} (h : callN Lib (n + 3) 2 [e, .int 0, .int 7] S = .ok (.bl false) S) : callN Lib (n + 4) 70 [.int 7, e] S = .ex ⟨3, []⟩ S := by
  have h0 : callN Lib (n + 3) 2 [.int 7, .int 1, .int 500] S = .ok (.bl true) S := by
    rw [c_is_within (n := n + 1)]
    rfl
  rw [callN_eq (d := f_least_round) rfl]
  generalize callN Lib (n + 3) = c at *
  refine run_ex (s' := [some (.int 7), some e]) rfl ?_
  simp [b_least_round, h, h0]
theorem c_lodd14 (H : Hd k S) : ∃ d S', callN Lib (n + 3) 247 [.ptr k] S = .ok d S' ∧ Hd k S' ∧ Odd15 d ∧ noDay d = true := by
  obtain ⟨r, S1, e1, H1, -, r0, r1⟩ := c_draw (n := n + 1) H 30 (by omega) (by omega)
  obtain ⟨s2, S2, e2, ⟨d2, x2, rfl, o2, m2⟩, H2⟩ := for_invU (p := .nm 2) (b := w_law_odd_v2_0 (callN Lib (n + 2))) (fun s S => (∃ d x, s = [some (.ptr k), some d, x] ∧ Odd15 d ∧ noDay d = true) ∧ Hd k S) (rngL 0 (1 + r).toNat) [some (.ptr k), some (.str "odd"), none] S1 ⟨⟨_, _, rfl, ⟨by decide +kernel, by decide +kernel⟩, by decide +kernel⟩, H1⟩ (fun x hx s T ⟨⟨d, y, hs, od, md⟩, HT⟩ => by
    subst hs
    obtain ⟨z, T1, e, HT1, -, z0, z1⟩ := c_draw (n := n + 1) HT 3 (by omega) (by omega)
    obtain ⟨d', hx', od', md'⟩ : ∃ d', oIx (.lst [.tup [d], .lst [d], .dct [(.inl 0, d)]]) (.int z) T1 = some (d', T1) ∧ Odd15 d' ∧ noDay d' = true := by
      rcases (show z = 0 ∨ z = 1 ∨ z = 2 by omega) with rfl | rfl | rfl
      · exact ⟨_, oIx_lst (n := 0) rfl, oddP _ trivial, rfl⟩
      · exact ⟨_, oIx_lst (n := 1) rfl, oddP _ trivial, rfl⟩
      · exact ⟨_, oIx_lst (n := 2) rfl, oddP _ trivial, rfl⟩
    refine ⟨_, rfl, [some (.ptr k), some d', some x], T1, ?_, ⟨d', some x, rfl, od', md'⟩, HT1⟩
    generalize callN Lib (n + 2) = c at *
    simp [w_law_odd_v2_0, e, eDct, pairsD, keyD, nodupK, hx'])
  obtain ⟨d, S3, e3, H3, -, md⟩ := c_any (n := n) H2 [.non, .bl true, .int 0, .int (-1), .str "", .str "012", .str "0 1", .lst [], .dct [], .tup [.str "0"], .lst [.str "0", .str "1"], .tup [.non], .int (10 ^ 11), d2] (by simp) (by simp)
  refine ⟨d, S3, ?_, H3, ?_⟩
  · have rg : iRng1 [.int (1 + r)] = some (rngL 0 (1 + r).toNat) := by
      have : ((1 + r).toNat : Int) = 1 + r := by omega
      rw [← this]; exact iRng1_nat (by omega)
    have pw : oPow (.int 10) (.int 11) S2 = some (.int (10 ^ 11), S2) := (oPow_10 (n := 11)).trans (by simp)
    rw [callN_eq (d := f_law_odd_v2) rfl]
    have e3' : callN Lib (n + 2) 233 [.ptr k, .lst [.non, .bl true, .int 0, .int (-1), .str "", .str "012", .str "0 1", .lst [], .dct [], .tup [.str "0"], .lst [.str "0", .str "1"], .tup [.non], .int (10 ^ 11), d2]] S2 = .ok d S3 := e3
    clear e3
    generalize callN Lib (n + 2) = c at *
    refine run_keep rfl ?_
    generalize (10 : Int) ^ 11 = big at *
    simp [b_law_odd_v2, e1, rg, e2, eDct, pairsD, nodupK, pw, e3']
  · simp only [List.mem_cons, List.not_mem_nil, or_false] at md
    rcases md with rfl | rfl | rfl | rfl | rfl | rfl | rfl | rfl | rfl | rfl | rfl | rfl | rfl | rfl
    all_goals first | exact ⟨o2, m2⟩ | exact ⟨oddP _ trivial, rfl⟩ | exact ⟨oddP _ trivial, by decide +kernel⟩ | exact ⟨⟨by decide +kernel, by decide +kernel⟩, by decide +kernel⟩
theorem c_refused14 (H : Hd k S) : ∃ S', callN Lib (n + 7) 277 [.ptr k] S = .ok (.bl true) S' ∧ Hd k S' := by
  obtain ⟨o1, S1, e1, H1, -, oo1⟩ := c_lodd14 (n := n + 3) H
  obtain ⟨d, S2, e2, H2, -, md⟩ := c_any (n := n + 4) H1 [.int 0, .int 501, .int (-1), .non, .bl true, .str "5", .tup [.int 5], .int (10 ^ 30), o1, .int 7] (by simp) (by simp)
  obtain ⟨e, S3, e3, H3, -, me⟩ := c_any (n := n + 4) H2 [.int (-1), .int 8, .non, .bl true, .str "0", .int 1000000000, .lst [.int 1], .int 3] (by simp) (by simp)
  obtain ⟨o2, S4, e4, H4, oo2, -⟩ := c_lodd14 (n := n + 3) H3
  have z1 : ∀ S, oMulL (.str "01") (.int 251) S = some (.str (wrd (List.replicate 251 [false, true]).flatten), S) := fun S => by
    have s01' : ("01" : Str) = wrd [false, true] := by decide +kernel
    rw [s01']
    have hz : [false, true].length * 251 ≤ sizeLine := by rw [PySem.sizeLine_eq]; simp
    have e : (⟨((List.replicate 251 (wrd [false, true]).cps.toList).flatten).toArray⟩ : Str) = wrd (List.replicate 251 [false, true]).flatten := by
      unfold wrd
      simp only [List.map_flatten, List.map_replicate]
    unfold oMulL
    simp only [wrd_len]
    rw [if_pos (by simp only [Bool.and_eq_true, decide_eq_true_eq]; exact ⟨⟨⟨by decide, by decide⟩, by decide⟩, hz⟩)]
    show some (D.str ⟨((List.replicate 251 (wrd [false, true]).cps.toList).flatten).toArray⟩, S) = _
    rw [e]
  obtain ⟨W, hW⟩ : ∃ W, W = wrd (List.replicate 251 [false, true]).flatten := ⟨_, rfl⟩
  have oW : Odd15 (.str W) := by
    have : ((List.replicate 251 [false, true]).flatten).length = 502 := by decide +kernel
    have wl : W.length = 502 := by rw [hW, wrd_len, this]
    refine ⟨by simp [thingOk, wl], ?_⟩
    show rowB W = false
    unfold rowB
    rw [decide_eq_false (show ¬ W.length ≤ 500 by omega), Bool.and_false]
  rw [← hW] at z1
  obtain ⟨x, S5, e5, H5, -, mx⟩ := c_any (n := n + 4) H4 [o2, .str "", .str W, .str "0a", .str "01 ", .tup [.str "0", .str "1"], .int 1] (by simp) (by simp)
  have ox : Odd15 x := by
    simp only [List.mem_cons, List.not_mem_nil, or_false] at mx
    rcases mx with rfl | rfl | rfl | rfl | rfl | rfl | rfl
    all_goals first | exact oddP _ trivial | exact oo2 | exact oW | exact ⟨by decide +kernel, by decide +kernel⟩
  have q3 : callN Lib (n + 6) 266 [x] S5 = .ok (.bl false) S5 := c_is_even_round_no (n := n + 2) ox.1 ox.2
  have hd : deep (callN Lib (n + 6)) = true := deep15 (m := n + 4)
  have p30 : oPow (.int 10) (.int 30) S = some (.int (10 ^ 30), S) := (oPow_10 (n := 30)).trans (by simp)
  have p9 : oPow (.int 10) (.int 9) S2 = some (.int 1000000000, S2) := oPow_9
  -- what the call is told
  have key : ∃ (b1 b2 : Bool) (w : Str), oEqK d (.int 7) S3 = some (.bl b1, S3) ∧ (b1 = true → oEqK e (.int 3) S3 = some (.bl b2, S3)) ∧ (∀ s : Sl, s[1]? = some (some d) → s[2]? = some (some e) → eTold true 1 (b_law_word (callN Lib (n + 6))) (eCall (callN Lib (n + 6)) 1000070 [eV 1, eV 2]) s S3 = .ok (.str w) S3) ∧ w = if b1 && b2 then "told" else "number" := by
    by_cases h7 : d = .int 7
    · subst h7
      by_cases h3 : e = .int 3
      · subst h3
        have q : callN Lib (n + 6) 1000070 [.int 7, .int 3] S3 = .ok (.str (wrd (mech 7 3 0))) S3 := (callN_low (id := 70) rfl).trans (c_least_round (n := n) (N := 7) (m := 3) (by omega) (by omega) (by omega) (by omega))
        exact ⟨true, true, "told", oEqK_int, fun _ => oEqK_int, fun s h1 h2 => word_told (d := .str (wrd (mech 7 3 0))) (by simp [eCall, h1, h2]; exact q) rfl, rfl⟩
      · have hw : callN Lib (n + 3) 2 [e, .int 0, .int 7] S3 = .ok (.bl false) S3 ∧ oEqK e (.int 3) S3 = some (.bl false, S3) := by
          simp only [List.mem_cons, List.not_mem_nil, or_false] at me
          clear e3
          rcases me with rfl | rfl | rfl | rfl | rfl | rfl | rfl | rfl
          · exact ⟨by rw [c_is_within (n := n + 1)]; rfl, rfl⟩
          · exact ⟨by rw [c_is_within (n := n + 1)]; rfl, rfl⟩
          · exact ⟨c_not_within (n := n + 1) _ _ _ rfl, by simp [oEqK, oEq, eqD, pdT, D.pd, SeqAt.shaped, PyData.canLay0, PyData.depth, PyData.eqv]⟩
          · exact ⟨c_not_within (n := n + 1) _ _ _ rfl, by simp [oEqK, oEq, eqD, pdT, D.pd, SeqAt.shaped, PyData.canLay0, PyData.depth, PyData.eqv]⟩
          · exact ⟨c_not_within (n := n + 1) _ _ _ rfl, by simp [oEqK, oEq, eqD, pdT, D.pd, SeqAt.shaped, PyData.canLay0, PyData.depth, PyData.eqv, show PyData.strOk "0" = true by decide +kernel]⟩
          · exact ⟨by rw [c_is_within (n := n + 1)]; rfl, rfl⟩
          · exact ⟨c_not_within (n := n + 1) _ _ _ rfl, rfl⟩
          · exact absurd rfl h3
        have q : callN Lib (n + 6) 1000070 [.int 7, e] S3 = .ex ⟨3, []⟩ S3 := (callN_low (id := 70) rfl).trans (c_least_round_no2 (n := n) hw.1)
        exact ⟨true, false, "number", oEqK_int, fun _ => hw.2, fun s h1 h2 => word_number (by simp [eCall, h1, h2]; exact q), rfl⟩
    · have nd : noDay d = true := by
        simp only [List.mem_cons, List.not_mem_nil, or_false] at md
        clear e2
        rcases md with rfl | rfl | rfl | rfl | rfl | rfl | rfl | rfl | rfl | rfl
        all_goals first | exact absurd rfl h7 | exact oo1 | rfl | decide +kernel
      have q : callN Lib (n + 6) 1000070 [d, e] S3 = .ex ⟨3, []⟩ S3 := (callN_low (id := 70) rfl).trans (c_least_round_no (n := n) (noDay_within (n := n) nd))
      exact ⟨false, false, "number", noDay_ne nd, (fun z => by cases z), fun s h1 h2 => word_number (by simp [eCall, h1, h2]; exact q), rfl⟩
  obtain ⟨b1, b2, w, k1, k2, k3, kw⟩ := key
  refine ⟨S5, ?_, H5⟩
  rw [callN_eq (d := f_law_are_refused) rfl]
  have e1' : callN Lib (n + 6) 247 [.ptr k] S = .ok o1 S1 := e1
  have e2' : callN Lib (n + 6) 233 [.ptr k, .lst [.int 0, .int 501, .int (-1), .non, .bl true, .str "5", .tup [.int 5], .int (10 ^ 30), o1, .int 7]] S1 = .ok d S2 := e2
  have e3' : callN Lib (n + 6) 233 [.ptr k, .lst [.int (-1), .int 8, .non, .bl true, .str "0", .int 1000000000, .lst [.int 1], .int 3]] S2 = .ok e S3 := e3
  have e4' : callN Lib (n + 6) 247 [.ptr k] S3 = .ok o2 S4 := e4
  have e5' : callN Lib (n + 6) 233 [.ptr k, .lst [o2, .str "", .str W, .str "0a", .str "01 ", .tup [.str "0", .str "1"], .int 1]] S4 = .ok x S5 := e5
  clear e1 e2 e3 e4 e5 md me mx
  generalize callN Lib (n + 6) = c at *
  refine run_keep rfl ?_
  generalize (10 : Int) ^ 30 = B30 at *
  cases b1 with
  | false =>
    simp at kw
    simp [b_law_are_refused, e1', p30, e2', p9, e3', k1, hd, k3, kw, e4', z1, e5', q3, oIsB]
  | true =>
    have k2' := k2 rfl
    cases b2 <;> (simp at kw; simp [b_law_are_refused, e1', p30, e2', p9, e3', k1, k2', hd, k3, kw, e4', z1, e5', q3, oIsB])
end
theorem law_k14 (ns : List Int) (hl : ns.length ≤ 63) : ∃ S, callN Lib 100 278 [.src ns] ⟨[], []⟩ = .ok (.bl true) S := by
  obtain ⟨h, e0, ok⟩ := c_hand (n := 98) (S := ⟨[], []⟩) ns
  have H : Hd 0 ((⟨[], []⟩ : Store).new h.d) := ⟨h, get_new_self, ok⟩
  generalize (⟨[], []⟩ : Store).new h.d = S1 at e0 H
  have t1 : callN Lib 99 70 [.int 5, .int 2] S1 = .ok (.str "00101") S1 := by
    have := c_least_round (n := 95) (S := S1) (N := 5) (m := 2) (by omega) (by omega) (by omega) (by omega)
    rw [show wrd (mech 5 2 0) = ("00101" : Str) by decide +kernel] at this
    exact this
  have kr : ∀ (l : List Bool) (z : Str) (b : Bool), wrd l = z → (roundP l).isNone = b → 0 < l.length → l.length ≤ 500 → callN Lib 99 266 [.str z] S1 = .ok (.bl b) S1 := fun l z b hz hr h0 h1 => by
    rw [← hz, ← hr]
    exact c_is_even_round (n := 95) h0 h1
  have t2 := kr [false, false, true, true] "0011" false (by decide +kernel) (by decide +kernel) (by simp) (by simp)
  have t3 := kr [false, true, false, false, true] "01001" true (by decide +kernel) (by decide +kernel) (by simp) (by simp)
  have t5 : callN Lib 99 234 [.lst [.str "00101", .bl false, .bl true], .lst [.str "00101", .bl false, .bl true]] S1 = .ok (.bl true) S1 := same_refl 1 _ (by simp [plainD]) 97 S1
  obtain ⟨w, S2, e1, H2, -, w0, w1⟩ := c_draw (n := 98) H 7 (by omega) (by omega)
  obtain ⟨q, hq⟩ := Int.eq_ofNat_of_zero_le (show 0 ≤ 1 + w by omega)
  have sm : callN Lib 99 275 [.int (1 + w)] S2 = .ok (.bl true) S2 := by
    rw [hq]
    exact c_small_right (n := 93) q (by omega) (by omega)
  have right : ∀ (l : List Bool), 0 < l.length → l.length ≤ 500 → ∀ T, callN Lib 99 276 [.str (wrd l)] T = .ok (.bl true) T := fun l h0 h1 T => c_row_right14 (n := 90) h0 h1
  have rg : iRng1 [.int 6] = some (rngL 0 6) := iRng1_nat (m := 6) (by omega)
  obtain ⟨s2, S3, e2, ⟨x2, rfl⟩, H3⟩ := for_invU (p := .nm 2) (b := w_law_v15_0 (callN Lib 99)) (fun s S => (∃ x2, s = [some (.src ns), some (.ptr 0), x2, none]) ∧ Hd 0 S) (rngL 0 6) [some (.src ns), some (.ptr 0), none, none] S2 ⟨⟨none, rfl⟩, H2⟩ (fun d hd s T ⟨⟨x2, e⟩, HT⟩ => by
    subst e
    obtain ⟨v, T1, e1, HT1, -, v1⟩ := c_anyi (n := 97) HT [20, 60] (by simp) (by simp) (fun v => 1 ≤ v ∧ v ≤ 500) (fun v hv => by
      simp only [List.mem_cons, List.not_mem_nil, or_false] at hv
      omega)
    obtain ⟨l, T2, e2, HT2, l0, l1⟩ := c_drawn_round (n := 96) HT1 v v1.1 v1.2
    obtain ⟨T3, e3, HT3⟩ := c_refused14 (n := 92) HT2
    have e4 := right l l0 l1 T2
    refine ⟨_, rfl, [some (.src ns), some (.ptr 0), some d, none], T3, ?_, ⟨_, rfl⟩, HT3⟩
    have e1' : callN Lib 99 233 [.ptr 0, .lst [.int 20, .int 60]] T = .ok (.int v) T1 := e1
    have e2' : callN Lib 99 272 [.ptr 0, .int v] T1 = .ok (.str (wrd l)) T2 := e2
    have e3' : callN Lib 99 277 [.ptr 0] T2 = .ok (.bl true) T3 := e3
    clear e1 e2 e3 right kr
    generalize callN Lib 99 = c at *
    simp [w_law_v15_0, e1', e2', e3', e4])
  obtain ⟨r, S4, e3, H4, -, r0, r1⟩ := c_draw (n := 98) H3 4 (by omega) (by omega)
  have e0' : callN Lib 99 231 [.src ns] ⟨[], []⟩ = .ok (.ptr 0) S1 := e0
  have e1' : callN Lib 99 232 [.ptr 0, .int 7] S1 = .ok (.int w) S2 := e1
  have e3' : callN Lib 99 232 [.ptr 0, .int 4] S3 = .ok (.int r) S4 := e3
  by_cases hr : 0 < r
  · refine ⟨S4, ?_⟩
    rw [callN_eq (n := 99) (d := f_law_v15) rfl]
    clear e0 e3 e1 right kr
    refine run_keep rfl ?_
    generalize callN Lib 99 = c at *
    simp [b_law_v15, e0', t1, t2, t3, t5, e1', sm, rg, e2, e3', hr]
  · obtain ⟨z, S5, e4, H5, -, z0, z1⟩ := c_draw (n := 98) H4 300 (by omega) (by omega)
    obtain ⟨v, S6, e5, H6, -, v1⟩ := c_anyi (n := 97) H5 [499, 500, 200 + z] (by simp) (by simp) (fun v => 200 ≤ v ∧ v ≤ 500) (fun v hv => by
      simp only [List.mem_cons, List.not_mem_nil, or_false] at hv
      omega)
    obtain ⟨N, rfl⟩ := Int.eq_ofNat_of_zero_le (show 0 ≤ v by omega)
    obtain ⟨m, S7, e6, H7, -, m0, m1⟩ := c_draw (n := 98) H6 ((N : Int) + 1) (by omega) (by omega)
    obtain ⟨l0, e7, hl0⟩ := c_lround (n := 98) (S := S7) (N := N) (m := m) (by omega) (by omega) m0 (by omega)
    obtain ⟨t, S8, e8, H8, -, t0, t1'⟩ := c_draw (n := 98) H7 (N : Int) (by omega) (by omega)
    obtain ⟨t', rfl⟩ := Int.eq_ofNat_of_zero_le t0
    have e9 : callN Lib 99 271 [.str (wrd l0), .int t'] S8 = .ok (.str (wrd (rot l0 t'))) S8 := c_lturn (n := 98) (by omega) (by omega)
    have ll : (rot l0 t').length = N := by rw [rot_len, hl0]
    have g := right (rot l0 t') (by omega) (by omega) S8
    have e4' : callN Lib 99 232 [.ptr 0, .int 300] S4 = .ok (.int z) S5 := e4
    have e5' : callN Lib 99 233 [.ptr 0, .lst [.int 499, .int 500, .int (200 + z)]] S5 = .ok (.int N) S6 := e5
    have e6' : callN Lib 99 232 [.ptr 0, .int ((N : Int) + 1)] S6 = .ok (.int m) S7 := e6
    have e7' : callN Lib 99 268 [.int N, .int m] S7 = .ok (.str (wrd l0)) S7 := e7
    have e8' : callN Lib 99 232 [.ptr 0, .int N] S7 = .ok (.int t') S8 := e8
    refine ⟨S8, ?_⟩
    rw [callN_eq (n := 99) (d := f_law_v15) rfl]
    clear e0 e1 e3 e4 e5 e6 e7 e8 right kr
    refine run_keep rfl ?_
    generalize callN Lib 99 = c at *
    simp [b_law_v15, e0', t1, t2, t3, t5, e1', sm, rg, e2, e3', hr, e4', e5', e6', e7', e8', e9, g]
end Q
namespace HD
open PySem PySem.Spec PyProof.Rows L2 Q
def top (i : Nat) : Stmt := PySem.Challenge.pw_evenduties_k14_whole_even_rounds.main.body.getD i (.Pass ⟨0, 0, 0, 0⟩)
abbrev s_is_integer : Stmt := top 2
abbrev s_is_within : Stmt := top 3
abbrev s_common : Stmt := top 4
abbrev s_frac : Stmt := top 5
abbrev s_is_signs : Stmt := top 14
abbrev s_is_row : Stmt := top 15
abbrev s_check_row : Stmt := top 16
abbrev s_sums_of : Stmt := top 17
abbrev s_complement : Stmt := top 18
abbrev s_mirrored : Stmt := top 19
abbrev s_pair_of_length : Stmt := top 21
abbrev s_first_pair : Stmt := top 22
abbrev s_total_to : Stmt := top 24
abbrev s_row_of : Stmt := top 25
abbrev s_pair_round : Stmt := top 27
abbrev s_is_even_round : Stmt := top 28
abbrev s_round_pair : Stmt := top 29
abbrev s_least_of : Stmt := top 30
abbrev s_least_round : Stmt := top 31
abbrev s_is_even : Stmt := top 33
abbrev s_law_hand : Stmt := top 35
abbrev s_law_draw : Stmt := top 36
abbrev s_law_any : Stmt := top 37
abbrev s_law_same : Stmt := top 38
abbrev s_law_odd : Stmt := top 39
abbrev s_law_round : Stmt := top 40
abbrev s_law_counts : Stmt := top 41
abbrev s_law_first_pair : Stmt := top 42
abbrev s_law_turn : Stmt := top 43
abbrev s_law_drawn_round : Stmt := top 44
abbrev s_law_word : Stmt := top 45
abbrev s_law_all_rows : Stmt := top 46
abbrev s_law_are_small_right : Stmt := top 47
abbrev s_law_is_row_right : Stmt := top 48
abbrev s_law_are_refused : Stmt := top 49
abbrev s_law : Stmt := top 50
def d_is_integer : He.DefD := ⟨("is_integer", none), "is_integer", "is_integer", defArgs s_is_integer, defBody s_is_integer, defScope s_is_integer, [], []⟩
def d_is_within : He.DefD := ⟨("is_within", none), "is_within", "is_within", defArgs s_is_within, defBody s_is_within, defScope s_is_within, [], []⟩
def d_common : He.DefD := ⟨("common", none), "common", "common", defArgs s_common, defBody s_common, defScope s_common, [], []⟩
def d_frac : He.DefD := ⟨("frac", none), "frac", "frac", defArgs s_frac, defBody s_frac, defScope s_frac, [], []⟩
def d_is_signs : He.DefD := ⟨("is_signs", none), "is_signs", "is_signs", defArgs s_is_signs, defBody s_is_signs, defScope s_is_signs, [], []⟩
def d_is_row : He.DefD := ⟨("is_row", none), "is_row", "is_row", defArgs s_is_row, defBody s_is_row, defScope s_is_row, [], []⟩
def d_check_row : He.DefD := ⟨("check_row", none), "check_row", "check_row", defArgs s_check_row, defBody s_check_row, defScope s_check_row, [], []⟩
def d_sums_of : He.DefD := ⟨("sums_of", none), "sums_of", "sums_of", defArgs s_sums_of, defBody s_sums_of, defScope s_sums_of, [], []⟩
def d_complement : He.DefD := ⟨("complement", none), "complement", "complement", defArgs s_complement, defBody s_complement, defScope s_complement, [], []⟩
def d_mirrored : He.DefD := ⟨("mirrored", none), "mirrored", "mirrored", defArgs s_mirrored, defBody s_mirrored, defScope s_mirrored, [], []⟩
def d_pair_of_length : He.DefD := ⟨("pair_of_length", none), "pair_of_length", "pair_of_length", defArgs s_pair_of_length, defBody s_pair_of_length, defScope s_pair_of_length, [], []⟩
def d_first_pair : He.DefD := ⟨("first_pair", none), "first_pair", "first_pair", defArgs s_first_pair, defBody s_first_pair, defScope s_first_pair, [], []⟩
def d_total_to : He.DefD := ⟨("total_to", none), "total_to", "total_to", defArgs s_total_to, defBody s_total_to, defScope s_total_to, [], []⟩
def d_row_of : He.DefD := ⟨("row_of", none), "row_of", "row_of", defArgs s_row_of, defBody s_row_of, defScope s_row_of, [], []⟩
def d_pair_round : He.DefD := ⟨("pair_round", none), "pair_round", "pair_round", defArgs s_pair_round, defBody s_pair_round, defScope s_pair_round, [], []⟩
def d_is_even_round : He.DefD := ⟨("is_even_round", none), "is_even_round", "is_even_round", defArgs s_is_even_round, defBody s_is_even_round, defScope s_is_even_round, [], []⟩
def d_round_pair : He.DefD := ⟨("round_pair", none), "round_pair", "round_pair", defArgs s_round_pair, defBody s_round_pair, defScope s_round_pair, [], []⟩
def d_least_of : He.DefD := ⟨("least_of", none), "least_of", "least_of", defArgs s_least_of, defBody s_least_of, defScope s_least_of, [], []⟩
def d_least_round : He.DefD := ⟨("least_round", none), "least_round", "least_round", defArgs s_least_round, defBody s_least_round, defScope s_least_round, [], []⟩
def d_is_even : He.DefD := ⟨("is_even", none), "is_even", "is_even", defArgs s_is_even, defBody s_is_even, defScope s_is_even, [], []⟩
def d_law_hand : He.DefD := ⟨("_law_hand", none), "_law_hand", "_law_hand", defArgs s_law_hand, defBody s_law_hand, defScope s_law_hand, [], []⟩
def d_law_draw : He.DefD := ⟨("_law_draw", none), "_law_draw", "_law_draw", defArgs s_law_draw, defBody s_law_draw, defScope s_law_draw, [], []⟩
def d_law_any : He.DefD := ⟨("_law_any", none), "_law_any", "_law_any", defArgs s_law_any, defBody s_law_any, defScope s_law_any, [], []⟩
def d_law_same : He.DefD := ⟨("_law_same", none), "_law_same", "_law_same", defArgs s_law_same, defBody s_law_same, defScope s_law_same, [], []⟩
def d_law_odd : He.DefD := ⟨("_law_odd", none), "_law_odd", "_law_odd", defArgs s_law_odd, defBody s_law_odd, defScope s_law_odd, [], []⟩
def d_law_round : He.DefD := ⟨("_law_round", none), "_law_round", "_law_round", defArgs s_law_round, defBody s_law_round, defScope s_law_round, [], []⟩
def d_law_counts : He.DefD := ⟨("_law_counts", none), "_law_counts", "_law_counts", defArgs s_law_counts, defBody s_law_counts, defScope s_law_counts, [], []⟩
def d_law_first_pair : He.DefD := ⟨("_law_first_pair", none), "_law_first_pair", "_law_first_pair", defArgs s_law_first_pair, defBody s_law_first_pair, defScope s_law_first_pair, [], []⟩
def d_law_turn : He.DefD := ⟨("_law_turn", none), "_law_turn", "_law_turn", defArgs s_law_turn, defBody s_law_turn, defScope s_law_turn, [], []⟩
def d_law_drawn_round : He.DefD := ⟨("_law_drawn_round", none), "_law_drawn_round", "_law_drawn_round", defArgs s_law_drawn_round, defBody s_law_drawn_round, defScope s_law_drawn_round, [], []⟩
def d_law_word : He.DefD := ⟨("_law_word", none), "_law_word", "_law_word", defArgs s_law_word, defBody s_law_word, defScope s_law_word, [], []⟩
def d_law_all_rows : He.DefD := ⟨("_law_all_rows", none), "_law_all_rows", "_law_all_rows", defArgs s_law_all_rows, defBody s_law_all_rows, defScope s_law_all_rows, [], []⟩
def d_law_are_small_right : He.DefD := ⟨("_law_are_small_right", none), "_law_are_small_right", "_law_are_small_right", defArgs s_law_are_small_right, defBody s_law_are_small_right, defScope s_law_are_small_right, [], []⟩
def d_law_is_row_right : He.DefD := ⟨("_law_is_row_right", none), "_law_is_row_right", "_law_is_row_right", defArgs s_law_is_row_right, defBody s_law_is_row_right, defScope s_law_is_row_right, [], []⟩
def d_law_are_refused : He.DefD := ⟨("_law_are_refused", none), "_law_are_refused", "_law_are_refused", defArgs s_law_are_refused, defBody s_law_are_refused, defScope s_law_are_refused, [], []⟩
def d_law : He.DefD := ⟨("law", none), "law", "law", defArgs s_law, defBody s_law, defScope s_law, [], []⟩
def fn : List He.DefD := [d_is_integer, d_is_within, d_common, d_frac, d_is_signs, d_is_row, d_check_row, d_sums_of, d_complement, d_mirrored, d_pair_of_length, d_first_pair, d_total_to, d_row_of, d_pair_round, d_is_even_round, d_round_pair, d_least_of, d_least_round, d_is_even, d_law_hand, d_law_draw, d_law_any, d_law_same, d_law_odd, d_law_round, d_law_counts, d_law_first_pair, d_law_turn, d_law_drawn_round, d_law_word, d_law_all_rows, d_law_are_small_right, d_law_is_row_right, d_law_are_refused, d_law]
def fa : List He.Fa := [.glo "is_integer", .glo "is_within", .glo "common", .glo "frac", .glo "is_signs", .glo "is_row", .glo "check_row", .glo "sums_of", .glo "complement", .glo "mirrored", .glo "pair_of_length", .glo "first_pair", .glo "total_to", .glo "row_of", .glo "pair_round", .glo "is_even_round", .glo "round_pair", .glo "least_of", .glo "least_round", .glo "is_even", .glo "_law_hand", .glo "_law_draw", .glo "_law_any", .glo "_law_same", .glo "_law_odd", .glo "_law_round", .glo "_law_counts", .glo "_law_first_pair", .glo "_law_turn", .glo "_law_drawn_round", .glo "_law_word", .glo "_law_all_rows", .glo "_law_are_small_right", .glo "_law_is_row_right", .glo "_law_are_refused", .glo "law", .free "len", .free "int", .free "abs", .free "isinstance", .free "range", .free "max", .free "min", .free "all", .free "zip", .free "tuple", .free "list", .free "str", .free "bool", .free "enumerate", .free "sorted", .free "ValueError", .glo "ZERO", .int "MOST_DAYS" 500, .str "FREE" "0", .str "DUTY" "1", .glo "DutyError", .glo "BadNumber", .glo "BadRow"]
def tf : List (Str × Option Str) := [("_law_are_refused", none)]
def tabs (K : PySem.W.Frag) : List (Addr × Str) := [((He.cT K ("_law_are_refused", none)).2, ("_law_are_refused" ++ ".<locals>.") ++ "<lambda>")]
def ex (K : PySem.W.Frag) : Bool := (He.tupB K "ZERO" [.int 0, .int 1] && (ecB K (He.ga K "BadNumber") && (ecB K (He.ga K "BadRow") && (exmB K [3, 4] [0] && (excsB K [3, 4] && (kiB K [3, 4] 1000 && (kiB K [3, 4] 3 && (tabsU (tabs K) && true))))))))
abbrev R : PySem.W.OpenRow := PySem.W.OpenLaw.row PySem.Challenge.rw_evenduties_k14_whole_even_rounds
abbrev hk : PySem.W.Hook := He.hookX 4 fa fn [] tf ex
def ob (s : PySem.W.SharedT) : He.AlX := He.obsX 4 fa fn [] tf ex (HandSHeadRun.getT s)
theorem ob_eq (s : PySem.W.SharedT) : ob s = hk.obs s.abs := He.obsX_eq (HandSHeadRun.getT_eq s)
def loose0 : List PySem.Str := ["__name__", "ZERO", "is_integer", "is_within", "common", "frac", "DutyError", "BadNumber", "BadRow", "MOST_DAYS", "FREE", "DUTY", "is_signs", "is_row", "check_row", "sums_of", "complement", "mirrored", "pair_of_length", "first_pair", "total_to", "row_of", "pair_round", "is_even_round", "round_pair", "least_of", "least_round", "is_even", "_law_hand", "_law_draw"]
def loose1 : List PySem.Str := ["_law_any", "_law_same", "_law_odd", "_law_round", "_law_counts", "_law_first_pair", "_law_turn", "_law_drawn_round", "_law_word", "_law_all_rows", "_law_are_small_right", "_law_is_row_right", "_law_are_refused"]
def loose : List PySem.Str := loose0 ++ loose1
set_option maxHeartbeats 0 in
theorem run (w : World) : HandSHeadRun.RunEq R (PySem.W.view R.prog [50]) hk ob 4000 loose w := by
  intro os
  kernel_rfl
structure Fx (K : PySem.W.Frag) (mg : Str → Option Value) : Prop where
  g_is_integer : mg "is_integer" = some (.ref (He.ga K "is_integer"))
  d_is_integer : ∃ fd, FunD K "is_integer" "is_integer" (defArgs s_is_integer) (defBody s_is_integer) (defScope s_is_integer) [] [] (He.ga K "is_integer") fd
  g_is_within : mg "is_within" = some (.ref (He.ga K "is_within"))
  d_is_within : ∃ fd, FunD K "is_within" "is_within" (defArgs s_is_within) (defBody s_is_within) (defScope s_is_within) [] [] (He.ga K "is_within") fd
  g_common : mg "common" = some (.ref (He.ga K "common"))
  d_common : ∃ fd, FunD K "common" "common" (defArgs s_common) (defBody s_common) (defScope s_common) [] [] (He.ga K "common") fd
  g_frac : mg "frac" = some (.ref (He.ga K "frac"))
  d_frac : ∃ fd, FunD K "frac" "frac" (defArgs s_frac) (defBody s_frac) (defScope s_frac) [] [] (He.ga K "frac") fd
  g_is_signs : mg "is_signs" = some (.ref (He.ga K "is_signs"))
  d_is_signs : ∃ fd, FunD K "is_signs" "is_signs" (defArgs s_is_signs) (defBody s_is_signs) (defScope s_is_signs) [] [] (He.ga K "is_signs") fd
  g_is_row : mg "is_row" = some (.ref (He.ga K "is_row"))
  d_is_row : ∃ fd, FunD K "is_row" "is_row" (defArgs s_is_row) (defBody s_is_row) (defScope s_is_row) [] [] (He.ga K "is_row") fd
  g_check_row : mg "check_row" = some (.ref (He.ga K "check_row"))
  d_check_row : ∃ fd, FunD K "check_row" "check_row" (defArgs s_check_row) (defBody s_check_row) (defScope s_check_row) [] [] (He.ga K "check_row") fd
  g_sums_of : mg "sums_of" = some (.ref (He.ga K "sums_of"))
  d_sums_of : ∃ fd, FunD K "sums_of" "sums_of" (defArgs s_sums_of) (defBody s_sums_of) (defScope s_sums_of) [] [] (He.ga K "sums_of") fd
  g_complement : mg "complement" = some (.ref (He.ga K "complement"))
  d_complement : ∃ fd, FunD K "complement" "complement" (defArgs s_complement) (defBody s_complement) (defScope s_complement) [] [] (He.ga K "complement") fd
  g_mirrored : mg "mirrored" = some (.ref (He.ga K "mirrored"))
  d_mirrored : ∃ fd, FunD K "mirrored" "mirrored" (defArgs s_mirrored) (defBody s_mirrored) (defScope s_mirrored) [] [] (He.ga K "mirrored") fd
  g_pair_of_length : mg "pair_of_length" = some (.ref (He.ga K "pair_of_length"))
  d_pair_of_length : ∃ fd, FunD K "pair_of_length" "pair_of_length" (defArgs s_pair_of_length) (defBody s_pair_of_length) (defScope s_pair_of_length) [] [] (He.ga K "pair_of_length") fd
  g_first_pair : mg "first_pair" = some (.ref (He.ga K "first_pair"))
  d_first_pair : ∃ fd, FunD K "first_pair" "first_pair" (defArgs s_first_pair) (defBody s_first_pair) (defScope s_first_pair) [] [] (He.ga K "first_pair") fd
  g_total_to : mg "total_to" = some (.ref (He.ga K "total_to"))
  d_total_to : ∃ fd, FunD K "total_to" "total_to" (defArgs s_total_to) (defBody s_total_to) (defScope s_total_to) [] [] (He.ga K "total_to") fd
  g_row_of : mg "row_of" = some (.ref (He.ga K "row_of"))
  d_row_of : ∃ fd, FunD K "row_of" "row_of" (defArgs s_row_of) (defBody s_row_of) (defScope s_row_of) [] [] (He.ga K "row_of") fd
  g_pair_round : mg "pair_round" = some (.ref (He.ga K "pair_round"))
  d_pair_round : ∃ fd, FunD K "pair_round" "pair_round" (defArgs s_pair_round) (defBody s_pair_round) (defScope s_pair_round) [] [] (He.ga K "pair_round") fd
  g_is_even_round : mg "is_even_round" = some (.ref (He.ga K "is_even_round"))
  d_is_even_round : ∃ fd, FunD K "is_even_round" "is_even_round" (defArgs s_is_even_round) (defBody s_is_even_round) (defScope s_is_even_round) [] [] (He.ga K "is_even_round") fd
  g_round_pair : mg "round_pair" = some (.ref (He.ga K "round_pair"))
  d_round_pair : ∃ fd, FunD K "round_pair" "round_pair" (defArgs s_round_pair) (defBody s_round_pair) (defScope s_round_pair) [] [] (He.ga K "round_pair") fd
  g_least_of : mg "least_of" = some (.ref (He.ga K "least_of"))
  d_least_of : ∃ fd, FunD K "least_of" "least_of" (defArgs s_least_of) (defBody s_least_of) (defScope s_least_of) [] [] (He.ga K "least_of") fd
  g_least_round : mg "least_round" = some (.ref (He.ga K "least_round"))
  d_least_round : ∃ fd, FunD K "least_round" "least_round" (defArgs s_least_round) (defBody s_least_round) (defScope s_least_round) [] [] (He.ga K "least_round") fd
  g_is_even : mg "is_even" = some (.ref (He.ga K "is_even"))
  d_is_even : ∃ fd, FunD K "is_even" "is_even" (defArgs s_is_even) (defBody s_is_even) (defScope s_is_even) [] [] (He.ga K "is_even") fd
  g_law_hand : mg "_law_hand" = some (.ref (He.ga K "_law_hand"))
  d_law_hand : ∃ fd, FunD K "_law_hand" "_law_hand" (defArgs s_law_hand) (defBody s_law_hand) (defScope s_law_hand) [] [] (He.ga K "_law_hand") fd
  g_law_draw : mg "_law_draw" = some (.ref (He.ga K "_law_draw"))
  d_law_draw : ∃ fd, FunD K "_law_draw" "_law_draw" (defArgs s_law_draw) (defBody s_law_draw) (defScope s_law_draw) [] [] (He.ga K "_law_draw") fd
  g_law_any : mg "_law_any" = some (.ref (He.ga K "_law_any"))
  d_law_any : ∃ fd, FunD K "_law_any" "_law_any" (defArgs s_law_any) (defBody s_law_any) (defScope s_law_any) [] [] (He.ga K "_law_any") fd
  g_law_same : mg "_law_same" = some (.ref (He.ga K "_law_same"))
  d_law_same : ∃ fd, FunD K "_law_same" "_law_same" (defArgs s_law_same) (defBody s_law_same) (defScope s_law_same) [] [] (He.ga K "_law_same") fd
  g_law_odd : mg "_law_odd" = some (.ref (He.ga K "_law_odd"))
  d_law_odd : ∃ fd, FunD K "_law_odd" "_law_odd" (defArgs s_law_odd) (defBody s_law_odd) (defScope s_law_odd) [] [] (He.ga K "_law_odd") fd
  g_law_round : mg "_law_round" = some (.ref (He.ga K "_law_round"))
  d_law_round : ∃ fd, FunD K "_law_round" "_law_round" (defArgs s_law_round) (defBody s_law_round) (defScope s_law_round) [] [] (He.ga K "_law_round") fd
  g_law_counts : mg "_law_counts" = some (.ref (He.ga K "_law_counts"))
  d_law_counts : ∃ fd, FunD K "_law_counts" "_law_counts" (defArgs s_law_counts) (defBody s_law_counts) (defScope s_law_counts) [] [] (He.ga K "_law_counts") fd
  g_law_first_pair : mg "_law_first_pair" = some (.ref (He.ga K "_law_first_pair"))
  d_law_first_pair : ∃ fd, FunD K "_law_first_pair" "_law_first_pair" (defArgs s_law_first_pair) (defBody s_law_first_pair) (defScope s_law_first_pair) [] [] (He.ga K "_law_first_pair") fd
  g_law_turn : mg "_law_turn" = some (.ref (He.ga K "_law_turn"))
  d_law_turn : ∃ fd, FunD K "_law_turn" "_law_turn" (defArgs s_law_turn) (defBody s_law_turn) (defScope s_law_turn) [] [] (He.ga K "_law_turn") fd
  g_law_drawn_round : mg "_law_drawn_round" = some (.ref (He.ga K "_law_drawn_round"))
  d_law_drawn_round : ∃ fd, FunD K "_law_drawn_round" "_law_drawn_round" (defArgs s_law_drawn_round) (defBody s_law_drawn_round) (defScope s_law_drawn_round) [] [] (He.ga K "_law_drawn_round") fd
  g_law_word : mg "_law_word" = some (.ref (He.ga K "_law_word"))
  d_law_word : ∃ fd, FunD K "_law_word" "_law_word" (defArgs s_law_word) (defBody s_law_word) (defScope s_law_word) [] [] (He.ga K "_law_word") fd
  g_law_all_rows : mg "_law_all_rows" = some (.ref (He.ga K "_law_all_rows"))
  d_law_all_rows : ∃ fd, FunD K "_law_all_rows" "_law_all_rows" (defArgs s_law_all_rows) (defBody s_law_all_rows) (defScope s_law_all_rows) [] [] (He.ga K "_law_all_rows") fd
  g_law_are_small_right : mg "_law_are_small_right" = some (.ref (He.ga K "_law_are_small_right"))
  d_law_are_small_right : ∃ fd, FunD K "_law_are_small_right" "_law_are_small_right" (defArgs s_law_are_small_right) (defBody s_law_are_small_right) (defScope s_law_are_small_right) [] [] (He.ga K "_law_are_small_right") fd
  g_law_is_row_right : mg "_law_is_row_right" = some (.ref (He.ga K "_law_is_row_right"))
  d_law_is_row_right : ∃ fd, FunD K "_law_is_row_right" "_law_is_row_right" (defArgs s_law_is_row_right) (defBody s_law_is_row_right) (defScope s_law_is_row_right) [] [] (He.ga K "_law_is_row_right") fd
  g_law_are_refused : mg "_law_are_refused" = some (.ref (He.ga K "_law_are_refused"))
  d_law_are_refused : ∃ fd, FunD K "_law_are_refused" "_law_are_refused" (defArgs s_law_are_refused) (defBody s_law_are_refused) (defScope s_law_are_refused) [] [] (He.ga K "_law_are_refused") fd
  g_law : mg "law" = some (.ref (He.ga K "law"))
  d_law : ∃ fd, FunD K "law" "law" (defArgs s_law) (defBody s_law) (defScope s_law) [] [] (He.ga K "law") fd
  b_len : mg "len" = none
  b_int : mg "int" = none
  b_abs : mg "abs" = none
  b_isinstance : mg "isinstance" = none
  b_range : mg "range" = none
  b_max : mg "max" = none
  b_min : mg "min" = none
  b_all : mg "all" = none
  b_zip : mg "zip" = none
  b_tuple : mg "tuple" = none
  b_list : mg "list" = none
  b_str : mg "str" = none
  b_bool : mg "bool" = none
  b_enumerate : mg "enumerate" = none
  b_sorted : mg "sorted" = none
  b_ValueError : mg "ValueError" = none
  c_ZERO : ∃ a, mg "ZERO" = some (.ref a) ∧ ∀ H, SqT K H a [.int 0, .int 1]
  c_MOST_DAYS : ∃ t, mg "MOST_DAYS" = some (.int 500 t)
  c_FREE : ∃ t, mg "FREE" = some (.str "0" t)
  c_DUTY : ∃ t, mg "DUTY" = some (.str "1" t)
  k_DutyError : mg "DutyError" = some (.ref (He.ga K "DutyError"))
  k_BadNumber : mg "BadNumber" = some (.ref (He.ga K "BadNumber"))
  k_BadRow : mg "BadRow" = some (.ref (He.ga K "BadRow"))
  e_BadNumber : EC K mg "BadNumber" (He.ga K "BadNumber")
  e_BadRow : EC K mg "BadRow" (He.ga K "BadRow")
  m_3a4_0 : exmB K [3, 4] [0] = true
  x_3a4 : excsB K [3, 4] = true
  i_3a4_1000 : kiB K [3, 4] 1000 = true
  i_3a4_3 : kiB K [3, 4] 3 = true
  u : tabsU (tabs K) = true
theorem facts {K : PySem.W.Frag} {h : Heap} {mg : Str → Option Value} (X : K.In h) (G : h.Ns mainGlobals mg) (c : He.SaysD fa fn K) (e : ex K = true) : Fx K mg where
  g_is_integer := He.glo_ok X G (c.fact 0 (f := .glo "is_integer") rfl)
  d_is_integer := c.def_ 0 (d := d_is_integer) rfl
  g_is_within := He.glo_ok X G (c.fact 1 (f := .glo "is_within") rfl)
  d_is_within := c.def_ 1 (d := d_is_within) rfl
  g_common := He.glo_ok X G (c.fact 2 (f := .glo "common") rfl)
  d_common := c.def_ 2 (d := d_common) rfl
  g_frac := He.glo_ok X G (c.fact 3 (f := .glo "frac") rfl)
  d_frac := c.def_ 3 (d := d_frac) rfl
  g_is_signs := He.glo_ok X G (c.fact 4 (f := .glo "is_signs") rfl)
  d_is_signs := c.def_ 4 (d := d_is_signs) rfl
  g_is_row := He.glo_ok X G (c.fact 5 (f := .glo "is_row") rfl)
  d_is_row := c.def_ 5 (d := d_is_row) rfl
  g_check_row := He.glo_ok X G (c.fact 6 (f := .glo "check_row") rfl)
  d_check_row := c.def_ 6 (d := d_check_row) rfl
  g_sums_of := He.glo_ok X G (c.fact 7 (f := .glo "sums_of") rfl)
  d_sums_of := c.def_ 7 (d := d_sums_of) rfl
  g_complement := He.glo_ok X G (c.fact 8 (f := .glo "complement") rfl)
  d_complement := c.def_ 8 (d := d_complement) rfl
  g_mirrored := He.glo_ok X G (c.fact 9 (f := .glo "mirrored") rfl)
  d_mirrored := c.def_ 9 (d := d_mirrored) rfl
  g_pair_of_length := He.glo_ok X G (c.fact 10 (f := .glo "pair_of_length") rfl)
  d_pair_of_length := c.def_ 10 (d := d_pair_of_length) rfl
  g_first_pair := He.glo_ok X G (c.fact 11 (f := .glo "first_pair") rfl)
  d_first_pair := c.def_ 11 (d := d_first_pair) rfl
  g_total_to := He.glo_ok X G (c.fact 12 (f := .glo "total_to") rfl)
  d_total_to := c.def_ 12 (d := d_total_to) rfl
  g_row_of := He.glo_ok X G (c.fact 13 (f := .glo "row_of") rfl)
  d_row_of := c.def_ 13 (d := d_row_of) rfl
  g_pair_round := He.glo_ok X G (c.fact 14 (f := .glo "pair_round") rfl)
  d_pair_round := c.def_ 14 (d := d_pair_round) rfl
  g_is_even_round := He.glo_ok X G (c.fact 15 (f := .glo "is_even_round") rfl)
  d_is_even_round := c.def_ 15 (d := d_is_even_round) rfl
  g_round_pair := He.glo_ok X G (c.fact 16 (f := .glo "round_pair") rfl)
  d_round_pair := c.def_ 16 (d := d_round_pair) rfl
  g_least_of := He.glo_ok X G (c.fact 17 (f := .glo "least_of") rfl)
  d_least_of := c.def_ 17 (d := d_least_of) rfl
  g_least_round := He.glo_ok X G (c.fact 18 (f := .glo "least_round") rfl)
  d_least_round := c.def_ 18 (d := d_least_round) rfl
  g_is_even := He.glo_ok X G (c.fact 19 (f := .glo "is_even") rfl)
  d_is_even := c.def_ 19 (d := d_is_even) rfl
  g_law_hand := He.glo_ok X G (c.fact 20 (f := .glo "_law_hand") rfl)
  d_law_hand := c.def_ 20 (d := d_law_hand) rfl
  g_law_draw := He.glo_ok X G (c.fact 21 (f := .glo "_law_draw") rfl)
  d_law_draw := c.def_ 21 (d := d_law_draw) rfl
  g_law_any := He.glo_ok X G (c.fact 22 (f := .glo "_law_any") rfl)
  d_law_any := c.def_ 22 (d := d_law_any) rfl
  g_law_same := He.glo_ok X G (c.fact 23 (f := .glo "_law_same") rfl)
  d_law_same := c.def_ 23 (d := d_law_same) rfl
  g_law_odd := He.glo_ok X G (c.fact 24 (f := .glo "_law_odd") rfl)
  d_law_odd := c.def_ 24 (d := d_law_odd) rfl
  g_law_round := He.glo_ok X G (c.fact 25 (f := .glo "_law_round") rfl)
  d_law_round := c.def_ 25 (d := d_law_round) rfl
  g_law_counts := He.glo_ok X G (c.fact 26 (f := .glo "_law_counts") rfl)
  d_law_counts := c.def_ 26 (d := d_law_counts) rfl
  g_law_first_pair := He.glo_ok X G (c.fact 27 (f := .glo "_law_first_pair") rfl)
  d_law_first_pair := c.def_ 27 (d := d_law_first_pair) rfl
  g_law_turn := He.glo_ok X G (c.fact 28 (f := .glo "_law_turn") rfl)
  d_law_turn := c.def_ 28 (d := d_law_turn) rfl
  g_law_drawn_round := He.glo_ok X G (c.fact 29 (f := .glo "_law_drawn_round") rfl)
  d_law_drawn_round := c.def_ 29 (d := d_law_drawn_round) rfl
  g_law_word := He.glo_ok X G (c.fact 30 (f := .glo "_law_word") rfl)
  d_law_word := c.def_ 30 (d := d_law_word) rfl
  g_law_all_rows := He.glo_ok X G (c.fact 31 (f := .glo "_law_all_rows") rfl)
  d_law_all_rows := c.def_ 31 (d := d_law_all_rows) rfl
  g_law_are_small_right := He.glo_ok X G (c.fact 32 (f := .glo "_law_are_small_right") rfl)
  d_law_are_small_right := c.def_ 32 (d := d_law_are_small_right) rfl
  g_law_is_row_right := He.glo_ok X G (c.fact 33 (f := .glo "_law_is_row_right") rfl)
  d_law_is_row_right := c.def_ 33 (d := d_law_is_row_right) rfl
  g_law_are_refused := He.glo_ok X G (c.fact 34 (f := .glo "_law_are_refused") rfl)
  d_law_are_refused := c.def_ 34 (d := d_law_are_refused) rfl
  g_law := He.glo_ok X G (c.fact 35 (f := .glo "law") rfl)
  d_law := c.def_ 35 (d := d_law) rfl
  b_len := He.free_ok X G (c.fact 36 (f := .free "len") rfl)
  b_int := He.free_ok X G (c.fact 37 (f := .free "int") rfl)
  b_abs := He.free_ok X G (c.fact 38 (f := .free "abs") rfl)
  b_isinstance := He.free_ok X G (c.fact 39 (f := .free "isinstance") rfl)
  b_range := He.free_ok X G (c.fact 40 (f := .free "range") rfl)
  b_max := He.free_ok X G (c.fact 41 (f := .free "max") rfl)
  b_min := He.free_ok X G (c.fact 42 (f := .free "min") rfl)
  b_all := He.free_ok X G (c.fact 43 (f := .free "all") rfl)
  b_zip := He.free_ok X G (c.fact 44 (f := .free "zip") rfl)
  b_tuple := He.free_ok X G (c.fact 45 (f := .free "tuple") rfl)
  b_list := He.free_ok X G (c.fact 46 (f := .free "list") rfl)
  b_str := He.free_ok X G (c.fact 47 (f := .free "str") rfl)
  b_bool := He.free_ok X G (c.fact 48 (f := .free "bool") rfl)
  b_enumerate := He.free_ok X G (c.fact 49 (f := .free "enumerate") rfl)
  b_sorted := He.free_ok X G (c.fact 50 (f := .free "sorted") rfl)
  b_ValueError := He.free_ok X G (c.fact 51 (f := .free "ValueError") rfl)
  c_ZERO := ⟨_, He.glo_ok X G (c.fact 52 (f := .glo "ZERO") rfl), fun H => He.tupB_ok (He.ba e).1 H⟩
  c_MOST_DAYS := He.int_ok X G (c.fact 53 (f := .int "MOST_DAYS" 500) rfl)
  c_FREE := He.str_ok X G (c.fact 54 (f := .str "FREE" "0") rfl)
  c_DUTY := He.str_ok X G (c.fact 55 (f := .str "DUTY" "1") rfl)
  k_DutyError := He.glo_ok X G (c.fact 56 (f := .glo "DutyError") rfl)
  k_BadNumber := He.glo_ok X G (c.fact 57 (f := .glo "BadNumber") rfl)
  e_BadNumber := ecB_ok (He.glo_ok X G (c.fact 57 (f := .glo "BadNumber") rfl)) (He.ba (He.ba e).2).1
  k_BadRow := He.glo_ok X G (c.fact 58 (f := .glo "BadRow") rfl)
  e_BadRow := ecB_ok (He.glo_ok X G (c.fact 58 (f := .glo "BadRow") rfl)) (He.ba (He.ba (He.ba e).2).2).1
  m_3a4_0 := (He.ba (He.ba (He.ba (He.ba e).2).2).2).1
  x_3a4 := (He.ba (He.ba (He.ba (He.ba (He.ba e).2).2).2).2).1
  i_3a4_1000 := (He.ba (He.ba (He.ba (He.ba (He.ba (He.ba e).2).2).2).2).2).1
  i_3a4_3 := (He.ba (He.ba (He.ba (He.ba (He.ba (He.ba (He.ba e).2).2).2).2).2).2).1
  u := (He.ba (He.ba (He.ba (He.ba (He.ba (He.ba (He.ba (He.ba e).2).2).2).2).2).2).2).1
def T (K : PySem.W.Frag) : Tx := { cl := fun c => He.ga K (ErrN c), fa := fun _ => 0, tabs := tabs K, pin := [], fld := fun _ => "pair" }
structure Tbs (K : PySem.W.Frag) (base : Heap) (mg : Str → Option Value) : Prop where
  mk0 : True
  tb_law_are_refused : LamX.TabB base mg (He.cT K ("_law_are_refused", none)).1 (He.cT K ("_law_are_refused", none)).2
structure All (P : Program) (w : World) (K : PySem.W.Frag) (mg : Str → Option Value) (base : Heap) (k : Nat) : Prop where
  o_is_integer : FnO P w K mg base (T K) Lib k 1 "is_integer" (He.ga K "is_integer") ["thing"]
  o_is_within : FnO P w K mg base (T K) Lib k 2 "is_within" (He.ga K "is_within") ["thing", "low", "high"]
  o_common : FnO P w K mg base (T K) Lib k 4 "common" (He.ga K "common") ["one", "other"]
  o_frac : FnO P w K mg base (T K) Lib k 6 "frac" (He.ga K "frac") ["top", "bottom"]
  o_is_signs : FnO P w K mg base (T K) Lib k 13 "is_signs" (He.ga K "is_signs") ["thing"]
  o_is_row : FnO P w K mg base (T K) Lib k 14 "is_row" (He.ga K "is_row") ["thing"]
  o_check_row : FnO P w K mg base (T K) Lib k 15 "check_row" (He.ga K "check_row") ["row"]
  o_sums_of : FnO P w K mg base (T K) Lib k 16 "sums_of" (He.ga K "sums_of") ["row"]
  o_complement : FnO P w K mg base (T K) Lib k 107 "complement" (He.ga K "complement") ["row"]
  o_mirrored : FnO P w K mg base (T K) Lib k 108 "mirrored" (He.ga K "mirrored") ["row"]
  o_pair_of_length : FnO P w K mg base (T K) Lib k 20 "pair_of_length" (He.ga K "pair_of_length") ["totals", "length"]
  o_first_pair : FnO P w K mg base (T K) Lib k 21 "first_pair" (He.ga K "first_pair") ["row"]
  o_total_to : FnO P w K mg base (T K) Lib k 64 "total_to" (He.ga K "total_to") ["rule", "n"]
  o_row_of : FnO P w K mg base (T K) Lib k 65 "row_of" (He.ga K "row_of") ["rule", "first", "length"]
  o_pair_round : FnO P w K mg base (T K) Lib k 68 "pair_round" (He.ga K "pair_round") ["row"]
  o_is_even_round : FnO P w K mg base (T K) Lib k 266 "is_even_round" (He.ga K "is_even_round") ["thing"]
  o_round_pair : FnO P w K mg base (T K) Lib k 267 "round_pair" (He.ga K "round_pair") ["row"]
  o_least_of : FnO P w K mg base (T K) Lib k 69 "least_of" (He.ga K "least_of") ["days", "number"]
  o_least_round : FnO P w K mg base (T K) Lib k 70 "least_round" (He.ga K "least_round") ["days", "number"]
  o_is_even : FnO P w K mg base (T K) Lib k 59 "is_even" (He.ga K "is_even") ["thing"]
  o_law_hand : FnO P w K mg base (T K) Lib k 231 "_law_hand" (He.ga K "_law_hand") ["script"]
  o_law_draw : FnO P w K mg base (T K) Lib k 232 "_law_draw" (He.ga K "_law_draw") ["hand", "many"]
  o_law_any : FnO P w K mg base (T K) Lib k 233 "_law_any" (He.ga K "_law_any") ["hand", "some"]
  o_law_same : FnO P w K mg base (T K) Lib k 234 "_law_same" (He.ga K "_law_same") ["one", "due"]
  o_law_odd : FnO P w K mg base (T K) Lib k 247 "_law_odd" (He.ga K "_law_odd") ["hand"]
  o_law_round : FnO P w K mg base (T K) Lib k 268 "_law_round" (He.ga K "_law_round") ["days", "number"]
  o_law_counts : FnO P w K mg base (T K) Lib k 269 "_law_counts" (He.ga K "_law_counts") ["row"]
  o_law_first_pair : FnO P w K mg base (T K) Lib k 270 "_law_first_pair" (He.ga K "_law_first_pair") ["row"]
  o_law_turn : FnO P w K mg base (T K) Lib k 271 "_law_turn" (He.ga K "_law_turn") ["row", "at"]
  o_law_drawn_round : FnO P w K mg base (T K) Lib k 272 "_law_drawn_round" (He.ga K "_law_drawn_round") ["hand", "most"]
  o_law_all_rows : FnO P w K mg base (T K) Lib k 274 "_law_all_rows" (He.ga K "_law_all_rows") ["days"]
  o_law_are_small_right : FnO P w K mg base (T K) Lib k 275 "_law_are_small_right" (He.ga K "_law_are_small_right") ["days"]
  o_law_is_row_right : FnO P w K mg base (T K) Lib k 276 "_law_is_row_right" (He.ga K "_law_is_row_right") ["row"]
  o_law_are_refused : FnO P w K mg base (T K) Lib k 277 "_law_are_refused" (He.ga K "_law_are_refused") ["hand"]
  o_law : FnO P w K mg base (T K) Lib k 278 "law" (He.ga K "law") ["script"]
section
variable {P : Program} {w : World} {K : PySem.W.Frag} {mg : Str → Option Value} {base : Heap} {k : Nat}
theorem sc_law_word : FnScope ["call", "error"] ["call"] (defScope s_law_word) := ⟨rfl, rfl, rfl, by decide +kernel, rfl, by decide +kernel, by decide +kernel⟩
theorem bn_law_word (X : Fx K mg) : ∃ fd, Binds K fd ["call"] [] ∧ FunD K "_law_word" "_law_word" (defArgs s_law_word) (defBody s_law_word) (defScope s_law_word) [] [] (He.ga K "_law_word") fd := by
  obtain ⟨fd, Fd⟩ := X.d_law_word
  exact ⟨fd, Fd.bindsN fun _ _ _ _ _ _ us hl => match us, hl with | [_], _ => rfl, Fd⟩
theorem td_law_word {P : Program} {w : World} {K : PySem.W.Frag} {mg : Str → Option Value} {base : Heap} {c : CallT} {g f : Addr} {cdg : Value} {Ar : Around} {st : List Env} {s : Shared} {H : Hp} {pn : Wd × Addr × Str} {th : Store → Res D} (X : Fx K mg)
    (act : ∀ (W : WX) (pn2 : List (Addr × Obj)) (xe : Value → Shared → Prop) (p1 p2 : Pos), Indep W → Takes ((cxOf C8.CX0 P w K mg base ["call", "error"] "_law_word" (defScope s_law_word) g cdg Ar st s H C8.E0).tr pn2 xe) W → GE ((cxOf C8.CX0 P w K mg base ["call", "error"] "_law_word" (defScope s_law_word) g cdg Ar st s H C8.E0).tr pn2 xe) (Tl (T K) f pn) W (.Call (.Name "call" p1) [] [] p2) (eAct 0 th)) :
    GSs (cxOf C8.CX0 P w K mg base ["call", "error"] "_law_word" (defScope s_law_word) g cdg Ar st s H C8.E0).nox (Tl (T K) f pn) Wn (defBody s_law_word) (b_law_word c th) := by
  have nd := sc_law_word.nd
  exact (gss_cons (gs_tryAs rfl rfl nd rfl rfl ⟨by rfl, by decide, .inl X.k_DutyError⟩ takes0 rfl (exm1_ok X.m_3a4_0) (fun Wt pnt xet hIt tkt => (gss_one (gs_expr (act Wt pnt xet _ _ hIt tkt)))) (fun _ _ _ _ _ _ hze hfe hfl => (gss_one (gs_ret (ge_if (GW.gt (gw_and (gt_val (ge_isE (v := .ref (He.ga K "BadNumber")) hze hfe (by rfl) X.b_isinstance (excsB_ok X.x_3a4) (kiB_ok X.i_3a4_3) ⟨by rfl, by decide, .inl X.k_BadNumber⟩ rfl (fun _ h => h) (ge_var 1 (pv 1)))) (gw_and1 (gt_val (ge_isE (v := .ty "ValueError") hze hfe (by rfl) X.b_isinstance (excsB_ok X.x_3a4) (kiB_ok X.i_3a4_1000) ⟨by rfl, by decide, .inr ⟨X.b_ValueError, by decide +kernel, by decide⟩⟩ rfl (fun _ h => h) (ge_var 1 (pv 1))))))) ge_str ge_str))))) (gss_one (gs_ret ge_str)))
theorem sc_is_integer : FnScope ["thing"] ["thing"] (defScope s_is_integer) := ⟨rfl, rfl, rfl, by decide +kernel, rfl, by decide +kernel, by decide +kernel⟩
theorem bn_is_integer (X : Fx K mg) : ∃ fd, Binds K fd ["thing"] [] ∧ FunD K "is_integer" "is_integer" (defArgs s_is_integer) (defBody s_is_integer) (defScope s_is_integer) [] [] (He.ga K "is_integer") fd := by
  obtain ⟨fd, Fd⟩ := X.d_is_integer
  exact ⟨fd, Fd.bindsN fun _ _ _ _ _ _ us hl => match us, hl with | [_], _ => rfl, Fd⟩
theorem ok_is_integer {fd : FuncData} (Fd : FunD K "is_integer" "is_integer" (defArgs s_is_integer) (defBody s_is_integer) (defScope s_is_integer) [] [] (He.ga K "is_integer") fd) (X : Fx K mg) (AA : ∀ j, j ≤ k → All P w K mg base j) (B : Tbs K base mg) : FnOk P w K mg base (L2.CX P w) (k + 1) (He.ga K "is_integer") fd ["thing"] (spOf K (T K) Lib (k + 1) 1) := by
  have A := AA k (Nat.le_refl k)
  refine fn_ok Fd sc_is_integer (d := f_is_integer) rfl rfl rfl fun cdv Ar outer s H E hr => ?_
  have nd := sc_is_integer.nd
  show GSs _ _ _ _ (b_is_integer (callN Lib k))
  exact (gss_one (gs_ret (ge_and (ge_isi (t := .int) (by rfl) X.b_isinstance (ge_var 0 (pv 0)) (pe_tyname (by rfl) X.b_int bt_int)) (ge_one (ge_not (ge_isi (t := .bool) (by rfl) X.b_isinstance (ge_var 0 (pv 0)) (pe_tyname (by rfl) X.b_bool bt_bool)))))))
theorem st_is_integer (X : Fx K mg) (AA : ∀ j, j ≤ k → All P w K mg base j) (B : Tbs K base mg) : FnO P w K mg base (T K) Lib (k + 1) 1 "is_integer" (He.ga K "is_integer") ["thing"] :=
  (bn_is_integer X).elim fun fd z => ⟨X.g_is_integer, z.2.kp, fd, z.1, ok_is_integer z.2 X AA B⟩
theorem sc_is_within : FnScope ["thing", "low", "high"] ["thing", "low", "high"] (defScope s_is_within) := ⟨rfl, rfl, rfl, by decide +kernel, rfl, by decide +kernel, by decide +kernel⟩
theorem bn_is_within (X : Fx K mg) : ∃ fd, Binds K fd ["thing", "low", "high"] [] ∧ FunD K "is_within" "is_within" (defArgs s_is_within) (defBody s_is_within) (defScope s_is_within) [] [] (He.ga K "is_within") fd := by
  obtain ⟨fd, Fd⟩ := X.d_is_within
  exact ⟨fd, Fd.bindsN fun _ _ _ _ _ _ us hl => match us, hl with | [_, _, _], _ => rfl, Fd⟩
theorem ok_is_within {fd : FuncData} (Fd : FunD K "is_within" "is_within" (defArgs s_is_within) (defBody s_is_within) (defScope s_is_within) [] [] (He.ga K "is_within") fd) (X : Fx K mg) (AA : ∀ j, j ≤ k → All P w K mg base j) (B : Tbs K base mg) : FnOk P w K mg base (L2.CX P w) (k + 1) (He.ga K "is_within") fd ["thing", "low", "high"] (spOf K (T K) Lib (k + 1) 2) := by
  have A := AA k (Nat.le_refl k)
  refine fn_ok Fd sc_is_within (d := f_is_within) rfl rfl rfl fun cdv Ar outer s H E hr => ?_
  have nd := sc_is_within.nd
  show GSs _ _ _ _ (b_is_within (callN Lib k))
  exact (gss_one (gs_ret (ge_and (ge_fn A.o_is_integer hr (takes_of rfl rfl rfl rfl) (by rfl) (ga_cons (ge_var 0 (pv 0)) ga_nil)) (ge_one (ge_chain op_le op_le (ok_cmp _) (ok_cmp _) (ge_var 1 (pv 1)) (ge_var 0 (pv 0)) (ge_var 2 (pv 2)) (pe_chain op_le op_le (ge_var 1 (pv 1)) (ge_var 0 (pv 0)) (ge_var 2 (pv 2))))))))
theorem st_is_within (X : Fx K mg) (AA : ∀ j, j ≤ k → All P w K mg base j) (B : Tbs K base mg) : FnO P w K mg base (T K) Lib (k + 1) 2 "is_within" (He.ga K "is_within") ["thing", "low", "high"] :=
  (bn_is_within X).elim fun fd z => ⟨X.g_is_within, z.2.kp, fd, z.1, ok_is_within z.2 X AA B⟩
theorem sc_common : FnScope ["one", "other"] ["one", "other"] (defScope s_common) := ⟨rfl, rfl, rfl, by decide +kernel, rfl, by decide +kernel, by decide +kernel⟩
theorem bn_common (X : Fx K mg) : ∃ fd, Binds K fd ["one", "other"] [] ∧ FunD K "common" "common" (defArgs s_common) (defBody s_common) (defScope s_common) [] [] (He.ga K "common") fd := by
  obtain ⟨fd, Fd⟩ := X.d_common
  exact ⟨fd, Fd.bindsN fun _ _ _ _ _ _ us hl => match us, hl with | [_, _], _ => rfl, Fd⟩
theorem ok_common {fd : FuncData} (Fd : FunD K "common" "common" (defArgs s_common) (defBody s_common) (defScope s_common) [] [] (He.ga K "common") fd) (X : Fx K mg) (AA : ∀ j, j ≤ k → All P w K mg base j) (B : Tbs K base mg) : FnOk P w K mg base (L2.CX P w) (k + 1) (He.ga K "common") fd ["one", "other"] (spOf K (T K) Lib (k + 1) 4) := by
  have A := AA k (Nat.le_refl k)
  refine fn_ok Fd sc_common (d := f_common) rfl rfl rfl fun cdv Ar outer s H E hr => ?_
  have nd := sc_common.nd
  show GSs _ _ _ _ (b_common (callN Lib k))
  exact (gss_cons (gs_swp2 (ps_par (i := 0) (j := 1) rfl nd rfl rfl (by decide) rfl rfl (ga_cons (ge_blt call_abs ok_abs (by rfl) X.b_abs bt_abs (ga_cons (ge_var 0 (pv 0)) ga_nil)) (ga_cons (ge_blt call_abs ok_abs (by rfl) X.b_abs bt_abs (ga_cons (ge_var 1 (pv 1)) ga_nil)) ga_nil)) (by rfl))) (gss_cons (gs_while (passes_of rfl) (gt_cmp op_gt (ok_cmp _) (ge_var 1 (pv 1)) ge_int (nomark _)) (gss_one (gs_swp2 (ps_par (i := 0) (j := 1) rfl nd rfl rfl (by decide) rfl rfl (ga_cons (ge_var 1 (pv 1)) (ga_cons (ge_op op_modN ok_mod (ge_var 0 (pv 0)) (ge_var 1 (pv 1))) ga_nil)) (by rfl))))) (gss_one (gs_ret (ge_var 0 (pv 0))))))
theorem st_common (X : Fx K mg) (AA : ∀ j, j ≤ k → All P w K mg base j) (B : Tbs K base mg) : FnO P w K mg base (T K) Lib (k + 1) 4 "common" (He.ga K "common") ["one", "other"] :=
  (bn_common X).elim fun fd z => ⟨X.g_common, z.2.kp, fd, z.1, ok_common z.2 X AA B⟩
theorem sc_frac : FnScope ["top", "bottom", "divisor"] ["top", "bottom"] (defScope s_frac) := ⟨rfl, rfl, rfl, by decide +kernel, rfl, by decide +kernel, by decide +kernel⟩
theorem bn_frac (X : Fx K mg) : ∃ fd, Binds K fd ["top", "bottom"] [] ∧ FunD K "frac" "frac" (defArgs s_frac) (defBody s_frac) (defScope s_frac) [] [] (He.ga K "frac") fd := by
  obtain ⟨fd, Fd⟩ := X.d_frac
  exact ⟨fd, Fd.bindsN fun _ _ _ _ _ _ us hl => match us, hl with | [_, _], _ => rfl, Fd⟩
theorem ok_frac {fd : FuncData} (Fd : FunD K "frac" "frac" (defArgs s_frac) (defBody s_frac) (defScope s_frac) [] [] (He.ga K "frac") fd) (X : Fx K mg) (AA : ∀ j, j ≤ k → All P w K mg base j) (B : Tbs K base mg) : FnOk P w K mg base (L2.CX P w) (k + 1) (He.ga K "frac") fd ["top", "bottom"] (spOf K (T K) Lib (k + 1) 6) := by
  have A := AA k (Nat.le_refl k)
  refine fn_ok Fd sc_frac (d := f_frac) rfl rfl rfl fun cdv Ar outer s H E hr => ?_
  have nd := sc_frac.nd
  show GSs _ _ _ _ (b_frac (callN Lib k))
  exact (gss_cons (gs_set (ps_set (i := 2) nd rfl (by first | exact Or.inl rfl | exact Or.inr rfl) (ge_fn A.o_common hr (takes_of rfl rfl rfl rfl) (by rfl) (ga_cons (ge_var 0 (pv 0)) (ga_cons (ge_var 1 (pv 1)) ga_nil))))) (gss_cons (gs_if (gt_cmp op_lt (ok_cmp _) (ge_var 1 (pv 1)) ge_int (nomark _)) (gss_one (gs_set (ps_set (i := 2) nd rfl (by first | exact Or.inl rfl | exact Or.inr rfl) (ge_un un_neg ok_neg (ge_var 2 (pv 2)))))) gss_nil) (gss_one (gs_ret (ge_tup (k := 2) rfl (by decide) (ga_cons (ge_op or_div ok_div (ge_var 0 (pv 0)) (ge_var 2 (pv 2))) (ga_cons (ge_op or_div ok_div (ge_var 1 (pv 1)) (ge_var 2 (pv 2))) ga_nil)) rfl)))))
theorem st_frac (X : Fx K mg) (AA : ∀ j, j ≤ k → All P w K mg base j) (B : Tbs K base mg) : FnO P w K mg base (T K) Lib (k + 1) 6 "frac" (He.ga K "frac") ["top", "bottom"] :=
  (bn_frac X).elim fun fd z => ⟨X.g_frac, z.2.kp, fd, z.1, ok_frac z.2 X AA B⟩
theorem sc_is_signs : FnScope ["thing", "sign"] ["thing"] (defScope s_is_signs) := ⟨rfl, rfl, rfl, by decide +kernel, rfl, by decide +kernel, by decide +kernel⟩
theorem bn_is_signs (X : Fx K mg) : ∃ fd, Binds K fd ["thing"] [] ∧ FunD K "is_signs" "is_signs" (defArgs s_is_signs) (defBody s_is_signs) (defScope s_is_signs) [] [] (He.ga K "is_signs") fd := by
  obtain ⟨fd, Fd⟩ := X.d_is_signs
  exact ⟨fd, Fd.bindsN fun _ _ _ _ _ _ us hl => match us, hl with | [_], _ => rfl, Fd⟩
theorem ok_is_signs {fd : FuncData} (Fd : FunD K "is_signs" "is_signs" (defArgs s_is_signs) (defBody s_is_signs) (defScope s_is_signs) [] [] (He.ga K "is_signs") fd) (X : Fx K mg) (AA : ∀ j, j ≤ k → All P w K mg base j) (B : Tbs K base mg) : FnOk P w K mg base (L2.CX P w) (k + 1) (He.ga K "is_signs") fd ["thing"] (spOf K (T K) Lib (k + 1) 13) := by
  have A := AA k (Nat.le_refl k)
  refine fn_ok Fd sc_is_signs (d := f_is_signs) rfl rfl rfl fun cdv Ar outer s H E hr => ?_
  have nd := sc_is_signs.nd
  show GSs _ _ _ _ (b_is_signs (callN Lib k))
  exact (gss_one (gs_ret (ge_and (ge_isi (t := .str) (by rfl) X.b_isinstance (ge_var 0 (pv 0)) (pe_tyname (by rfl) X.b_str bt_str)) (ge_and (ge_cmp op_gt (ok_cmp _) (ge_blt or_len ok_len (by rfl) X.b_len bt_len (ga_cons (ge_var 0 (pv 0)) ga_nil)) ge_int (nomark _)) (ge_one (ge_blt (cr_all rfl) ok_all (by rfl) X.b_all bt_all (ga_cons (ge_lc (own := [("sign", 1)]) rfl nd (gi_seq (ge_var 0 (pv 0))) (blkOk_by (N := ["thing", "sign"]) (sc := defScope s_is_signs) (own := [("sign", 1)]) (by decide +kernel)) (by decide) (fun _ _ _ _ _ => (gp_name (pg_name (i := 1) nd rfl (by first | exact Or.inl rfl | exact Or.inr rfl)))) (fun _ _ _ _ _ => gts_nil) (fun _ _ _ _ _ => (ge_cmp or_in ok_in (ge_var 1 (pv 1)) (ge_tup (k := 2) rfl (by decide) (ga_cons (ge_cstr (by rfl) X.c_FREE) (ga_cons (ge_cstr (by rfl) X.c_DUTY) ga_nil)) rfl) (by rfl)))) ga_nil)))))))
theorem st_is_signs (X : Fx K mg) (AA : ∀ j, j ≤ k → All P w K mg base j) (B : Tbs K base mg) : FnO P w K mg base (T K) Lib (k + 1) 13 "is_signs" (He.ga K "is_signs") ["thing"] :=
  (bn_is_signs X).elim fun fd z => ⟨X.g_is_signs, z.2.kp, fd, z.1, ok_is_signs z.2 X AA B⟩
theorem sc_is_row : FnScope ["thing"] ["thing"] (defScope s_is_row) := ⟨rfl, rfl, rfl, by decide +kernel, rfl, by decide +kernel, by decide +kernel⟩
theorem bn_is_row (X : Fx K mg) : ∃ fd, Binds K fd ["thing"] [] ∧ FunD K "is_row" "is_row" (defArgs s_is_row) (defBody s_is_row) (defScope s_is_row) [] [] (He.ga K "is_row") fd := by
  obtain ⟨fd, Fd⟩ := X.d_is_row
  exact ⟨fd, Fd.bindsN fun _ _ _ _ _ _ us hl => match us, hl with | [_], _ => rfl, Fd⟩
theorem ok_is_row {fd : FuncData} (Fd : FunD K "is_row" "is_row" (defArgs s_is_row) (defBody s_is_row) (defScope s_is_row) [] [] (He.ga K "is_row") fd) (X : Fx K mg) (AA : ∀ j, j ≤ k → All P w K mg base j) (B : Tbs K base mg) : FnOk P w K mg base (L2.CX P w) (k + 1) (He.ga K "is_row") fd ["thing"] (spOf K (T K) Lib (k + 1) 14) := by
  have A := AA k (Nat.le_refl k)
  refine fn_ok Fd sc_is_row (d := f_is_row) rfl rfl rfl fun cdv Ar outer s H E hr => ?_
  have nd := sc_is_row.nd
  show GSs _ _ _ _ (b_is_row (callN Lib k))
  exact (gss_one (gs_ret (ge_and (ge_fn A.o_is_signs hr (takes_of rfl rfl rfl rfl) (by rfl) (ga_cons (ge_var 0 (pv 0)) ga_nil)) (ge_one (ge_cmp op_le (ok_cmp _) (ge_blt or_len ok_len (by rfl) X.b_len bt_len (ga_cons (ge_var 0 (pv 0)) ga_nil)) (ge_cint (by rfl) X.c_MOST_DAYS) (nomark _))))))
theorem st_is_row (X : Fx K mg) (AA : ∀ j, j ≤ k → All P w K mg base j) (B : Tbs K base mg) : FnO P w K mg base (T K) Lib (k + 1) 14 "is_row" (He.ga K "is_row") ["thing"] :=
  (bn_is_row X).elim fun fd z => ⟨X.g_is_row, z.2.kp, fd, z.1, ok_is_row z.2 X AA B⟩
theorem sc_check_row : FnScope ["row"] ["row"] (defScope s_check_row) := ⟨rfl, rfl, rfl, by decide +kernel, rfl, by decide +kernel, by decide +kernel⟩
theorem bn_check_row (X : Fx K mg) : ∃ fd, Binds K fd ["row"] [] ∧ FunD K "check_row" "check_row" (defArgs s_check_row) (defBody s_check_row) (defScope s_check_row) [] [] (He.ga K "check_row") fd := by
  obtain ⟨fd, Fd⟩ := X.d_check_row
  exact ⟨fd, Fd.bindsN fun _ _ _ _ _ _ us hl => match us, hl with | [_], _ => rfl, Fd⟩
theorem ok_check_row {fd : FuncData} (Fd : FunD K "check_row" "check_row" (defArgs s_check_row) (defBody s_check_row) (defScope s_check_row) [] [] (He.ga K "check_row") fd) (X : Fx K mg) (AA : ∀ j, j ≤ k → All P w K mg base j) (B : Tbs K base mg) : FnOk P w K mg base (L2.CX P w) (k + 1) (He.ga K "check_row") fd ["row"] (spOf K (T K) Lib (k + 1) 15) := by
  have A := AA k (Nat.le_refl k)
  refine fn_ok Fd sc_check_row (d := f_check_row) rfl rfl rfl fun cdv Ar outer s H E hr => ?_
  have nd := sc_check_row.nd
  show GSs _ _ _ _ (b_check_row (callN Lib k))
  exact (gss_one (gs_if (gt_not (gt_val (ge_fn A.o_is_row hr (takes_of rfl rfl rfl rfl) (by rfl) (ga_cons (ge_var 0 (pv 0)) ga_nil)))) (gss_one (gs_raise0 X.e_BadRow rfl (takes_of rfl rfl rfl rfl) (by rfl))) gss_nil))
theorem st_check_row (X : Fx K mg) (AA : ∀ j, j ≤ k → All P w K mg base j) (B : Tbs K base mg) : FnO P w K mg base (T K) Lib (k + 1) 15 "check_row" (He.ga K "check_row") ["row"] :=
  (bn_check_row X).elim fun fd z => ⟨X.g_check_row, z.2.kp, fd, z.1, ok_check_row z.2 X AA B⟩
theorem sc_sums_of : FnScope ["row", "found", "sign"] ["row"] (defScope s_sums_of) := ⟨rfl, rfl, rfl, by decide +kernel, rfl, by decide +kernel, by decide +kernel⟩
theorem bn_sums_of (X : Fx K mg) : ∃ fd, Binds K fd ["row"] [] ∧ FunD K "sums_of" "sums_of" (defArgs s_sums_of) (defBody s_sums_of) (defScope s_sums_of) [] [] (He.ga K "sums_of") fd := by
  obtain ⟨fd, Fd⟩ := X.d_sums_of
  exact ⟨fd, Fd.bindsN fun _ _ _ _ _ _ us hl => match us, hl with | [_], _ => rfl, Fd⟩
theorem ok_sums_of {fd : FuncData} (Fd : FunD K "sums_of" "sums_of" (defArgs s_sums_of) (defBody s_sums_of) (defScope s_sums_of) [] [] (He.ga K "sums_of") fd) (X : Fx K mg) (AA : ∀ j, j ≤ k → All P w K mg base j) (B : Tbs K base mg) : FnOk P w K mg base (L2.CX P w) (k + 1) (He.ga K "sums_of") fd ["row"] (spOf K (T K) Lib (k + 1) 16) := by
  have A := AA k (Nat.le_refl k)
  refine fn_ok Fd sc_sums_of (d := f_sums_of) rfl rfl rfl fun cdv Ar outer s H E hr => ?_
  have nd := sc_sums_of.nd
  show GSs _ _ _ _ (b_sums_of (callN Lib k))
  exact (gss_cons (gs_set (ps_set (i := 1) nd rfl (by first | exact Or.inl rfl | exact Or.inr rfl) (ge_lstM (ga_cons ge_int ga_nil)))) (gss_cons (gs_for (passes_of rfl) rfl (gi_seq (ge_var 0 (pv 0))) (gp_name (pg_name (i := 2) nd rfl (by first | exact Or.inl rfl | exact Or.inr rfl))) (gss_one (gs_expr (ge_mlst PySem.F.slot_list_append PySem.F.type_list_append mt_append ok_append (ge_var 1 (pv 1)) (ga_cons (ge_op or_add ok_add (ge_ix ix_seq ok_ix (ge_var 1 (pv 1)) (ge_un un_neg ok_neg ge_int) (fun _ _ => rfl)) (ge_if (gt_cmp (or_eq hr.units) ok_eq (ge_var 2 (pv 2)) (ge_cstr (by rfl) X.c_DUTY) (nomark _)) ge_int ge_int)) ga_nil))))) (gss_one (gs_frz (gs_ret (ge_var 1 (pv 1)))))))
theorem st_sums_of (X : Fx K mg) (AA : ∀ j, j ≤ k → All P w K mg base j) (B : Tbs K base mg) : FnO P w K mg base (T K) Lib (k + 1) 16 "sums_of" (He.ga K "sums_of") ["row"] :=
  (bn_sums_of X).elim fun fd z => ⟨X.g_sums_of, z.2.kp, fd, z.1, ok_sums_of z.2 X AA B⟩
theorem sc_complement : FnScope ["row", "sign"] ["row"] (defScope s_complement) := ⟨rfl, rfl, rfl, by decide +kernel, rfl, by decide +kernel, by decide +kernel⟩
theorem bn_complement (X : Fx K mg) : ∃ fd, Binds K fd ["row"] [] ∧ FunD K "complement" "complement" (defArgs s_complement) (defBody s_complement) (defScope s_complement) [] [] (He.ga K "complement") fd := by
  obtain ⟨fd, Fd⟩ := X.d_complement
  exact ⟨fd, Fd.bindsN fun _ _ _ _ _ _ us hl => match us, hl with | [_], _ => rfl, Fd⟩
theorem ok_complement {fd : FuncData} (Fd : FunD K "complement" "complement" (defArgs s_complement) (defBody s_complement) (defScope s_complement) [] [] (He.ga K "complement") fd) (X : Fx K mg) (AA : ∀ j, j ≤ k → All P w K mg base j) (B : Tbs K base mg) : FnOk P w K mg base (L2.CX P w) (k + 1) (He.ga K "complement") fd ["row"] (spOf K (T K) Lib (k + 1) 107) := by
  have A := AA k (Nat.le_refl k)
  refine fn_ok Fd sc_complement (d := f_complement) rfl rfl rfl fun cdv Ar outer s H E hr => ?_
  have nd := sc_complement.nd
  show GSs _ _ _ _ (b_complement (callN Lib k))
  exact (gss_cons (gs_expr (ge_fn A.o_check_row hr (takes_of rfl rfl rfl rfl) (by rfl) (ga_cons (ge_var 0 (pv 0)) ga_nil))) (gss_one (gs_ret (ge_join ge_str (ge_lc (own := [("sign", 1)]) rfl nd (gi_seq (ge_var 0 (pv 0))) (blkOk_by (N := ["row", "sign"]) (sc := defScope s_complement) (own := [("sign", 1)]) (by decide +kernel)) (by decide) (fun _ _ _ _ _ => (gp_name (pg_name (i := 1) nd rfl (by first | exact Or.inl rfl | exact Or.inr rfl)))) (fun _ _ _ _ _ => gts_nil) (fun _ _ _ _ _ => (ge_if (gt_cmp (or_eq hr.units) ok_eq (ge_var 1 (pv 1)) (ge_cstr (by rfl) X.c_DUTY) (nomark _)) (ge_cstr (by rfl) X.c_FREE) (ge_cstr (by rfl) X.c_DUTY))))))))
theorem st_complement (X : Fx K mg) (AA : ∀ j, j ≤ k → All P w K mg base j) (B : Tbs K base mg) : FnO P w K mg base (T K) Lib (k + 1) 107 "complement" (He.ga K "complement") ["row"] :=
  (bn_complement X).elim fun fd z => ⟨X.g_complement, z.2.kp, fd, z.1, ok_complement z.2 X AA B⟩
theorem sc_mirrored : FnScope ["row"] ["row"] (defScope s_mirrored) := ⟨rfl, rfl, rfl, by decide +kernel, rfl, by decide +kernel, by decide +kernel⟩
theorem bn_mirrored (X : Fx K mg) : ∃ fd, Binds K fd ["row"] [] ∧ FunD K "mirrored" "mirrored" (defArgs s_mirrored) (defBody s_mirrored) (defScope s_mirrored) [] [] (He.ga K "mirrored") fd := by
  obtain ⟨fd, Fd⟩ := X.d_mirrored
  exact ⟨fd, Fd.bindsN fun _ _ _ _ _ _ us hl => match us, hl with | [_], _ => rfl, Fd⟩
theorem ok_mirrored {fd : FuncData} (Fd : FunD K "mirrored" "mirrored" (defArgs s_mirrored) (defBody s_mirrored) (defScope s_mirrored) [] [] (He.ga K "mirrored") fd) (X : Fx K mg) (AA : ∀ j, j ≤ k → All P w K mg base j) (B : Tbs K base mg) : FnOk P w K mg base (L2.CX P w) (k + 1) (He.ga K "mirrored") fd ["row"] (spOf K (T K) Lib (k + 1) 108) := by
  have A := AA k (Nat.le_refl k)
  refine fn_ok Fd sc_mirrored (d := f_mirrored) rfl rfl rfl fun cdv Ar outer s H E hr => ?_
  have nd := sc_mirrored.nd
  show GSs _ _ _ _ (b_mirrored (callN Lib k))
  exact (gss_cons (gs_expr (ge_fn A.o_check_row hr (takes_of rfl rfl rfl rfl) (by rfl) (ga_cons (ge_var 0 (pv 0)) ga_nil))) (gss_one (gs_ret (ge_rev (ge_var 0 (pv 0))))))
theorem st_mirrored (X : Fx K mg) (AA : ∀ j, j ≤ k → All P w K mg base j) (B : Tbs K base mg) : FnO P w K mg base (T K) Lib (k + 1) 108 "mirrored" (He.ga K "mirrored") ["row"] :=
  (bn_mirrored X).elim fun fd z => ⟨X.g_mirrored, z.2.kp, fd, z.1, ok_mirrored z.2 X AA B⟩
theorem sc_pair_of_length : FnScope ["totals", "length", "numbers", "least", "i", "at", "number"] ["totals", "length"] (defScope s_pair_of_length) := ⟨rfl, rfl, rfl, by decide +kernel, rfl, by decide +kernel, by decide +kernel⟩
theorem bn_pair_of_length (X : Fx K mg) : ∃ fd, Binds K fd ["totals", "length"] [] ∧ FunD K "pair_of_length" "pair_of_length" (defArgs s_pair_of_length) (defBody s_pair_of_length) (defScope s_pair_of_length) [] [] (He.ga K "pair_of_length") fd := by
  obtain ⟨fd, Fd⟩ := X.d_pair_of_length
  exact ⟨fd, Fd.bindsN fun _ _ _ _ _ _ us hl => match us, hl with | [_, _], _ => rfl, Fd⟩
theorem ok_pair_of_length {fd : FuncData} (Fd : FunD K "pair_of_length" "pair_of_length" (defArgs s_pair_of_length) (defBody s_pair_of_length) (defScope s_pair_of_length) [] [] (He.ga K "pair_of_length") fd) (X : Fx K mg) (AA : ∀ j, j ≤ k → All P w K mg base j) (B : Tbs K base mg) : FnOk P w K mg base (L2.CX P w) (k + 1) (He.ga K "pair_of_length") fd ["totals", "length"] (spOf K (T K) Lib (k + 1) 20) := by
  have A := AA k (Nat.le_refl k)
  refine fn_ok Fd sc_pair_of_length (d := f_pair_of_length) rfl rfl rfl fun cdv Ar outer s H E hr => ?_
  have nd := sc_pair_of_length.nd
  show GSs _ _ _ _ (b_pair_of_length (callN Lib k))
  exact (gss_cons (gs_set (ps_set (i := 2) nd rfl (by first | exact Or.inl rfl | exact Or.inr rfl) (ge_lc (own := [("at", 5)]) rfl nd (gi_rng1 (by rfl) X.b_range (ga_cons (ge_op op_sub ok_sub (ge_blt or_len ok_len (by rfl) X.b_len bt_len (ga_cons (ge_var 0 (pv 0)) ga_nil)) (ge_var 1 (pv 1))) ga_nil)) (blkOk_by (N := ["totals", "length", "numbers", "least", "i", "at", "number"]) (sc := defScope s_pair_of_length) (own := [("at", 5)]) (by decide +kernel)) (by decide) (fun _ _ _ _ _ => (gp_name (pg_name (i := 5) nd rfl (by first | exact Or.inl rfl | exact Or.inr rfl)))) (fun _ _ _ _ _ => gts_nil) (fun _ _ _ _ _ => (ge_op op_sub ok_sub (ge_ix ix_seq ok_ix (ge_var 0 (pv 0)) (ge_op or_add ok_add (ge_var 5 (pv 5)) (ge_var 1 (pv 1))) (fun _ _ => rfl)) (ge_ix ix_seq ok_ix (ge_var 0 (pv 0)) (ge_var 5 (pv 5)) (fun _ _ => rfl))))))) (gss_cons (gs_set (ps_set (i := 3) nd rfl (by first | exact Or.inl rfl | exact Or.inr rfl) (ge_blt (cr_min rfl) ok_minL (by rfl) X.b_min bt_min (ga_cons (ge_var 2 (pv 2)) ga_nil)))) (gss_cons (gs_if (gt_cmp op_lt (ok_cmp _) (ge_op op_sub ok_sub (ge_blt (cr_max rfl) ok_maxL (by rfl) X.b_max bt_max (ga_cons (ge_var 2 (pv 2)) ga_nil)) (ge_var 3 (pv 3))) ge_int (nomark _)) (gss_one (gs_ret ge_non)) gss_nil) (gss_cons (gs_set (ps_set (i := 4) nd rfl (by first | exact Or.inl rfl | exact Or.inr rfl) (ge_ix ix_seq ok_ix (ge_lc (own := [("at", 5), ("number", 6)]) rfl nd (gi_enum (by rfl) X.b_enumerate (ga_cons (ge_var 2 (pv 2)) ga_nil)) (blkOk_by (N := ["totals", "length", "numbers", "least", "i", "at", "number"]) (sc := defScope s_pair_of_length) (own := [("at", 5), ("number", 6)]) (by decide +kernel)) (by decide) (fun _ _ _ _ _ => (gp_tup rfl (gps_cons (gp_name (pg_name (i := 5) nd rfl (by first | exact Or.inl rfl | exact Or.inr rfl))) (gps_cons (gp_name (pg_name (i := 6) nd rfl (by first | exact Or.inl rfl | exact Or.inr rfl))) gps_nil)))) (fun _ _ _ _ _ => (gts_one (gt_cmp op_ge (ok_cmp _) (ge_op op_sub ok_sub (ge_var 6 (pv 6)) (ge_var 3 (pv 3))) ge_int (nomark _)))) (fun _ _ _ _ _ => (ge_var 5 (pv 5)))) ge_int (fun _ _ => rfl)))) (gss_one (gs_ret (ge_tup (k := 2) rfl (by decide) (ga_cons (ge_var 4 (pv 4)) (ga_cons (ge_ix ix_seq ok_ix (ge_lc (own := [("at", 5), ("number", 6)]) rfl nd (gi_enum (by rfl) X.b_enumerate (ga_cons (ge_var 2 (pv 2)) ga_nil)) (blkOk_by (N := ["totals", "length", "numbers", "least", "i", "at", "number"]) (sc := defScope s_pair_of_length) (own := [("at", 5), ("number", 6)]) (by decide +kernel)) (by decide) (fun _ _ _ _ _ => (gp_tup rfl (gps_cons (gp_name (pg_name (i := 5) nd rfl (by first | exact Or.inl rfl | exact Or.inr rfl))) (gps_cons (gp_name (pg_name (i := 6) nd rfl (by first | exact Or.inl rfl | exact Or.inr rfl))) gps_nil)))) (fun _ _ _ _ _ => (gts_one (gt_cmp op_ge (ok_cmp _) (ge_op op_sub ok_sub (ge_ix ix_seq ok_ix (ge_var 2 (pv 2)) (ge_var 4 (pv 4)) (fun _ _ => rfl)) (ge_var 6 (pv 6))) ge_int (nomark _)))) (fun _ _ _ _ _ => (ge_var 5 (pv 5)))) ge_int (fun _ _ => rfl)) ga_nil)) rfl)))))))
theorem st_pair_of_length (X : Fx K mg) (AA : ∀ j, j ≤ k → All P w K mg base j) (B : Tbs K base mg) : FnO P w K mg base (T K) Lib (k + 1) 20 "pair_of_length" (He.ga K "pair_of_length") ["totals", "length"] :=
  (bn_pair_of_length X).elim fun fd z => ⟨X.g_pair_of_length, z.2.kp, fd, z.1, ok_pair_of_length z.2 X AA B⟩
theorem sc_first_pair : FnScope ["row", "totals", "length", "found"] ["row"] (defScope s_first_pair) := ⟨rfl, rfl, rfl, by decide +kernel, rfl, by decide +kernel, by decide +kernel⟩
theorem bn_first_pair (X : Fx K mg) : ∃ fd, Binds K fd ["row"] [] ∧ FunD K "first_pair" "first_pair" (defArgs s_first_pair) (defBody s_first_pair) (defScope s_first_pair) [] [] (He.ga K "first_pair") fd := by
  obtain ⟨fd, Fd⟩ := X.d_first_pair
  exact ⟨fd, Fd.bindsN fun _ _ _ _ _ _ us hl => match us, hl with | [_], _ => rfl, Fd⟩
theorem ok_first_pair {fd : FuncData} (Fd : FunD K "first_pair" "first_pair" (defArgs s_first_pair) (defBody s_first_pair) (defScope s_first_pair) [] [] (He.ga K "first_pair") fd) (X : Fx K mg) (AA : ∀ j, j ≤ k → All P w K mg base j) (B : Tbs K base mg) : FnOk P w K mg base (L2.CX P w) (k + 1) (He.ga K "first_pair") fd ["row"] (spOf K (T K) Lib (k + 1) 21) := by
  have A := AA k (Nat.le_refl k)
  refine fn_ok Fd sc_first_pair (d := f_first_pair) rfl rfl rfl fun cdv Ar outer s H E hr => ?_
  have nd := sc_first_pair.nd
  show GSs _ _ _ _ (b_first_pair (callN Lib k))
  exact (gss_cons (gs_set (ps_set (i := 1) nd rfl (by first | exact Or.inl rfl | exact Or.inr rfl) (ge_fn A.o_sums_of hr (takes_of rfl rfl rfl rfl) (by rfl) (ga_cons (ge_var 0 (pv 0)) ga_nil)))) (gss_cons (gs_for (passes_of rfl) rfl (gi_rng2 (by rfl) X.b_range (ga_cons ge_int (ga_cons (ge_blt or_len ok_len (by rfl) X.b_len bt_len (ga_cons (ge_var 0 (pv 0)) ga_nil)) ga_nil))) (gp_name (pg_name (i := 2) nd rfl (by first | exact Or.inl rfl | exact Or.inr rfl))) (gss_cons (gs_set (ps_set (i := 3) nd rfl (by first | exact Or.inl rfl | exact Or.inr rfl) (ge_fn A.o_pair_of_length hr (takes_of rfl rfl rfl rfl) (by rfl) (ga_cons (ge_var 1 (pv 1)) (ga_cons (ge_var 2 (pv 2)) ga_nil))))) (gss_one (gs_if (gt_notN (ge_var 3 (pv 3))) (gss_one (gs_ret (ge_tup (k := 3) rfl (by decide) (ga_cons (ge_ix ix_seq ok_ix (ge_var 3 (pv 3)) ge_int (fun _ _ => rfl)) (ga_cons (ge_ix ix_seq ok_ix (ge_var 3 (pv 3)) ge_int (fun _ _ => rfl)) (ga_cons (ge_var 2 (pv 2)) ga_nil))) rfl))) gss_nil)))) (gss_one (gs_ret ge_non))))
theorem st_first_pair (X : Fx K mg) (AA : ∀ j, j ≤ k → All P w K mg base j) (B : Tbs K base mg) : FnO P w K mg base (T K) Lib (k + 1) 21 "first_pair" (He.ga K "first_pair") ["row"] :=
  (bn_first_pair X).elim fun fd z => ⟨X.g_first_pair, z.2.kp, fd, z.1, ok_first_pair z.2 X AA B⟩
theorem sc_total_to : FnScope ["rule", "n", "step", "start"] ["rule", "n"] (defScope s_total_to) := ⟨rfl, rfl, rfl, by decide +kernel, rfl, by decide +kernel, by decide +kernel⟩
theorem bn_total_to (X : Fx K mg) : ∃ fd, Binds K fd ["rule", "n"] [] ∧ FunD K "total_to" "total_to" (defArgs s_total_to) (defBody s_total_to) (defScope s_total_to) [] [] (He.ga K "total_to") fd := by
  obtain ⟨fd, Fd⟩ := X.d_total_to
  exact ⟨fd, Fd.bindsN fun _ _ _ _ _ _ us hl => match us, hl with | [_, _], _ => rfl, Fd⟩
theorem ok_total_to {fd : FuncData} (Fd : FunD K "total_to" "total_to" (defArgs s_total_to) (defBody s_total_to) (defScope s_total_to) [] [] (He.ga K "total_to") fd) (X : Fx K mg) (AA : ∀ j, j ≤ k → All P w K mg base j) (B : Tbs K base mg) : FnOk P w K mg base (L2.CX P w) (k + 1) (He.ga K "total_to") fd ["rule", "n"] (spOf K (T K) Lib (k + 1) 64) := by
  have A := AA k (Nat.le_refl k)
  refine fn_ok Fd sc_total_to (d := f_total_to) rfl rfl rfl fun cdv Ar outer s H E hr => ?_
  have nd := sc_total_to.nd
  show GSs _ _ _ _ (b_total_to (callN Lib k))
  exact (gss_cons (gs_asg (ps_asg (ge_var 0 (pv 0)) (gp_tup rfl (gps_cons (gp_name (pg_name (i := 2) nd rfl (by first | exact Or.inl rfl | exact Or.inr rfl))) (gps_cons (gp_name (pg_name (i := 3) nd rfl (by first | exact Or.inl rfl | exact Or.inr rfl))) gps_nil))))) (gss_one (gs_ret (ge_op or_div ok_div (ge_op or_add ok_add (ge_op or_mul ok_mul (ge_op or_mul ok_mul (ge_var 1 (pv 1)) (ge_ix ix_seq ok_ix (ge_var 2 (pv 2)) ge_int (fun _ _ => rfl))) (ge_ix ix_seq ok_ix (ge_var 3 (pv 3)) ge_int (fun _ _ => rfl))) (ge_op or_mul ok_mul (ge_ix ix_seq ok_ix (ge_var 3 (pv 3)) ge_int (fun _ _ => rfl)) (ge_ix ix_seq ok_ix (ge_var 2 (pv 2)) ge_int (fun _ _ => rfl)))) (ge_op or_mul ok_mul (ge_ix ix_seq ok_ix (ge_var 2 (pv 2)) ge_int (fun _ _ => rfl)) (ge_ix ix_seq ok_ix (ge_var 3 (pv 3)) ge_int (fun _ _ => rfl)))))))
theorem st_total_to (X : Fx K mg) (AA : ∀ j, j ≤ k → All P w K mg base j) (B : Tbs K base mg) : FnO P w K mg base (T K) Lib (k + 1) 64 "total_to" (He.ga K "total_to") ["rule", "n"] :=
  (bn_total_to X).elim fun fd z => ⟨X.g_total_to, z.2.kp, fd, z.1, ok_total_to z.2 X AA B⟩
theorem sc_row_of : FnScope ["rule", "first", "length", "totals", "day"] ["rule", "first", "length"] (defScope s_row_of) := ⟨rfl, rfl, rfl, by decide +kernel, rfl, by decide +kernel, by decide +kernel⟩
theorem bn_row_of (X : Fx K mg) : ∃ fd, Binds K fd ["rule", "first", "length"] [] ∧ FunD K "row_of" "row_of" (defArgs s_row_of) (defBody s_row_of) (defScope s_row_of) [] [] (He.ga K "row_of") fd := by
  obtain ⟨fd, Fd⟩ := X.d_row_of
  exact ⟨fd, Fd.bindsN fun _ _ _ _ _ _ us hl => match us, hl with | [_, _, _], _ => rfl, Fd⟩
theorem ok_row_of {fd : FuncData} (Fd : FunD K "row_of" "row_of" (defArgs s_row_of) (defBody s_row_of) (defScope s_row_of) [] [] (He.ga K "row_of") fd) (X : Fx K mg) (AA : ∀ j, j ≤ k → All P w K mg base j) (B : Tbs K base mg) : FnOk P w K mg base (L2.CX P w) (k + 1) (He.ga K "row_of") fd ["rule", "first", "length"] (spOf K (T K) Lib (k + 1) 65) := by
  have A := AA k (Nat.le_refl k)
  refine fn_ok Fd sc_row_of (d := f_row_of) rfl rfl rfl fun cdv Ar outer s H E hr => ?_
  have nd := sc_row_of.nd
  show GSs _ _ _ _ (b_row_of (callN Lib k))
  exact (gss_cons (gs_set (ps_set (i := 3) nd rfl (by first | exact Or.inl rfl | exact Or.inr rfl) (ge_lc (own := [("day", 4)]) rfl nd (gi_rng1 (by rfl) X.b_range (ga_cons (ge_op or_add ok_add (ge_var 2 (pv 2)) ge_int) ga_nil)) (blkOk_by (N := ["rule", "first", "length", "totals", "day"]) (sc := defScope s_row_of) (own := [("day", 4)]) (by decide +kernel)) (by decide) (fun _ _ _ _ _ => (gp_name (pg_name (i := 4) nd rfl (by first | exact Or.inl rfl | exact Or.inr rfl)))) (fun _ _ _ _ _ => gts_nil) (fun _ _ _ _ _ => (ge_fn A.o_total_to hr takes0 (by rfl) (ga_cons (ge_var 0 (pv 0)) (ga_cons (ge_op or_add ok_add (ge_var 1 (pv 1)) (ge_var 4 (pv 4))) ga_nil))))))) (gss_one (gs_ret (ge_join ge_str (ge_lc (own := [("day", 4)]) rfl nd (gi_rng1 (by rfl) X.b_range (ga_cons (ge_var 2 (pv 2)) ga_nil)) (blkOk_by (N := ["rule", "first", "length", "totals", "day"]) (sc := defScope s_row_of) (own := [("day", 4)]) (by decide +kernel)) (by decide) (fun _ _ _ _ _ => (gp_name (pg_name (i := 4) nd rfl (by first | exact Or.inl rfl | exact Or.inr rfl)))) (fun _ _ _ _ _ => gts_nil) (fun _ _ _ _ _ => (ge_if (gt_cmp op_gt (ok_cmp _) (ge_ix ix_seq ok_ix (ge_var 3 (pv 3)) (ge_op or_add ok_add (ge_var 4 (pv 4)) ge_int) (fun _ _ => rfl)) (ge_ix ix_seq ok_ix (ge_var 3 (pv 3)) (ge_var 4 (pv 4)) (fun _ _ => rfl)) (nomark _)) (ge_cstr (by rfl) X.c_DUTY) (ge_cstr (by rfl) X.c_FREE))))))))
theorem st_row_of (X : Fx K mg) (AA : ∀ j, j ≤ k → All P w K mg base j) (B : Tbs K base mg) : FnO P w K mg base (T K) Lib (k + 1) 65 "row_of" (He.ga K "row_of") ["rule", "first", "length"] :=
  (bn_row_of X).elim fun fd z => ⟨X.g_row_of, z.2.kp, fd, z.1, ok_row_of z.2 X AA B⟩
theorem sc_pair_round : FnScope ["row", "totals", "length", "found"] ["row"] (defScope s_pair_round) := ⟨rfl, rfl, rfl, by decide +kernel, rfl, by decide +kernel, by decide +kernel⟩
theorem bn_pair_round (X : Fx K mg) : ∃ fd, Binds K fd ["row"] [] ∧ FunD K "pair_round" "pair_round" (defArgs s_pair_round) (defBody s_pair_round) (defScope s_pair_round) [] [] (He.ga K "pair_round") fd := by
  obtain ⟨fd, Fd⟩ := X.d_pair_round
  exact ⟨fd, Fd.bindsN fun _ _ _ _ _ _ us hl => match us, hl with | [_], _ => rfl, Fd⟩
theorem ok_pair_round {fd : FuncData} (Fd : FunD K "pair_round" "pair_round" (defArgs s_pair_round) (defBody s_pair_round) (defScope s_pair_round) [] [] (He.ga K "pair_round") fd) (X : Fx K mg) (AA : ∀ j, j ≤ k → All P w K mg base j) (B : Tbs K base mg) : FnOk P w K mg base (L2.CX P w) (k + 1) (He.ga K "pair_round") fd ["row"] (spOf K (T K) Lib (k + 1) 68) := by
  have A := AA k (Nat.le_refl k)
  refine fn_ok Fd sc_pair_round (d := f_pair_round) rfl rfl rfl fun cdv Ar outer s H E hr => ?_
  have nd := sc_pair_round.nd
  show GSs _ _ _ _ (b_pair_round (callN Lib k))
  exact (gss_cons (gs_set (ps_set (i := 1) nd rfl (by first | exact Or.inl rfl | exact Or.inr rfl) (ge_fn A.o_sums_of hr (takes_of rfl rfl rfl rfl) (by rfl) (ga_cons (ge_op or_add ok_add (ge_var 0 (pv 0)) (ge_var 0 (pv 0))) ga_nil)))) (gss_cons (gs_for (passes_of rfl) rfl (gi_rng2 (by rfl) X.b_range (ga_cons ge_int (ga_cons (ge_blt or_len ok_len (by rfl) X.b_len bt_len (ga_cons (ge_var 0 (pv 0)) ga_nil)) ga_nil))) (gp_name (pg_name (i := 2) nd rfl (by first | exact Or.inl rfl | exact Or.inr rfl))) (gss_cons (gs_set (ps_set (i := 3) nd rfl (by first | exact Or.inl rfl | exact Or.inr rfl) (ge_fn A.o_pair_of_length hr (takes_of rfl rfl rfl rfl) (by rfl) (ga_cons (ge_cutU (ge_var 1 (pv 1)) (ge_op or_add ok_add (ge_blt or_len ok_len (by rfl) X.b_len bt_len (ga_cons (ge_var 0 (pv 0)) ga_nil)) (ge_var 2 (pv 2)))) (ga_cons (ge_var 2 (pv 2)) ga_nil))))) (gss_one (gs_if (gt_notN (ge_var 3 (pv 3))) (gss_one (gs_ret (ge_tup (k := 3) rfl (by decide) (ga_cons (ge_ix ix_seq ok_ix (ge_var 3 (pv 3)) ge_int (fun _ _ => rfl)) (ga_cons (ge_ix ix_seq ok_ix (ge_var 3 (pv 3)) ge_int (fun _ _ => rfl)) (ga_cons (ge_var 2 (pv 2)) ga_nil))) rfl))) gss_nil)))) (gss_one (gs_ret ge_non))))
theorem st_pair_round (X : Fx K mg) (AA : ∀ j, j ≤ k → All P w K mg base j) (B : Tbs K base mg) : FnO P w K mg base (T K) Lib (k + 1) 68 "pair_round" (He.ga K "pair_round") ["row"] :=
  (bn_pair_round X).elim fun fd z => ⟨X.g_pair_round, z.2.kp, fd, z.1, ok_pair_round z.2 X AA B⟩
theorem sc_is_even_round : FnScope ["thing"] ["thing"] (defScope s_is_even_round) := ⟨rfl, rfl, rfl, by decide +kernel, rfl, by decide +kernel, by decide +kernel⟩
theorem bn_is_even_round (X : Fx K mg) : ∃ fd, Binds K fd ["thing"] [] ∧ FunD K "is_even_round" "is_even_round" (defArgs s_is_even_round) (defBody s_is_even_round) (defScope s_is_even_round) [] [] (He.ga K "is_even_round") fd := by
  obtain ⟨fd, Fd⟩ := X.d_is_even_round
  exact ⟨fd, Fd.bindsN fun _ _ _ _ _ _ us hl => match us, hl with | [_], _ => rfl, Fd⟩
theorem ok_is_even_round {fd : FuncData} (Fd : FunD K "is_even_round" "is_even_round" (defArgs s_is_even_round) (defBody s_is_even_round) (defScope s_is_even_round) [] [] (He.ga K "is_even_round") fd) (X : Fx K mg) (AA : ∀ j, j ≤ k → All P w K mg base j) (B : Tbs K base mg) : FnOk P w K mg base (L2.CX P w) (k + 1) (He.ga K "is_even_round") fd ["thing"] (spOf K (T K) Lib (k + 1) 266) := by
  have A := AA k (Nat.le_refl k)
  refine fn_ok Fd sc_is_even_round (d := f_is_even_round) rfl rfl rfl fun cdv Ar outer s H E hr => ?_
  have nd := sc_is_even_round.nd
  show GSs _ _ _ _ (b_is_even_round (callN Lib k))
  exact (gss_one (gs_ret (ge_and (ge_fn A.o_is_row hr (takes_of rfl rfl rfl rfl) (by rfl) (ga_cons (ge_var 0 (pv 0)) ga_nil)) (ge_one (ge_isN (ge_fn A.o_pair_round hr (takes_of rfl rfl rfl rfl) (by rfl) (ga_cons (ge_var 0 (pv 0)) ga_nil)))))))
theorem st_is_even_round (X : Fx K mg) (AA : ∀ j, j ≤ k → All P w K mg base j) (B : Tbs K base mg) : FnO P w K mg base (T K) Lib (k + 1) 266 "is_even_round" (He.ga K "is_even_round") ["thing"] :=
  (bn_is_even_round X).elim fun fd z => ⟨X.g_is_even_round, z.2.kp, fd, z.1, ok_is_even_round z.2 X AA B⟩
theorem sc_round_pair : FnScope ["row"] ["row"] (defScope s_round_pair) := ⟨rfl, rfl, rfl, by decide +kernel, rfl, by decide +kernel, by decide +kernel⟩
theorem bn_round_pair (X : Fx K mg) : ∃ fd, Binds K fd ["row"] [] ∧ FunD K "round_pair" "round_pair" (defArgs s_round_pair) (defBody s_round_pair) (defScope s_round_pair) [] [] (He.ga K "round_pair") fd := by
  obtain ⟨fd, Fd⟩ := X.d_round_pair
  exact ⟨fd, Fd.bindsN fun _ _ _ _ _ _ us hl => match us, hl with | [_], _ => rfl, Fd⟩
theorem ok_round_pair {fd : FuncData} (Fd : FunD K "round_pair" "round_pair" (defArgs s_round_pair) (defBody s_round_pair) (defScope s_round_pair) [] [] (He.ga K "round_pair") fd) (X : Fx K mg) (AA : ∀ j, j ≤ k → All P w K mg base j) (B : Tbs K base mg) : FnOk P w K mg base (L2.CX P w) (k + 1) (He.ga K "round_pair") fd ["row"] (spOf K (T K) Lib (k + 1) 267) := by
  have A := AA k (Nat.le_refl k)
  refine fn_ok Fd sc_round_pair (d := f_round_pair) rfl rfl rfl fun cdv Ar outer s H E hr => ?_
  have nd := sc_round_pair.nd
  show GSs _ _ _ _ (b_round_pair (callN Lib k))
  exact (gss_cons (gs_expr (ge_fn A.o_check_row hr (takes_of rfl rfl rfl rfl) (by rfl) (ga_cons (ge_var 0 (pv 0)) ga_nil))) (gss_one (gs_ret (ge_fn A.o_pair_round hr (takes_of rfl rfl rfl rfl) (by rfl) (ga_cons (ge_var 0 (pv 0)) ga_nil)))))
theorem st_round_pair (X : Fx K mg) (AA : ∀ j, j ≤ k → All P w K mg base j) (B : Tbs K base mg) : FnO P w K mg base (T K) Lib (k + 1) 267 "round_pair" (He.ga K "round_pair") ["row"] :=
  (bn_round_pair X).elim fun fd z => ⟨X.g_round_pair, z.2.kp, fd, z.1, ok_round_pair z.2 X AA B⟩
theorem sc_least_of : FnScope ["days", "number"] ["days", "number"] (defScope s_least_of) := ⟨rfl, rfl, rfl, by decide +kernel, rfl, by decide +kernel, by decide +kernel⟩
theorem bn_least_of (X : Fx K mg) : ∃ fd, Binds K fd ["days", "number"] [] ∧ FunD K "least_of" "least_of" (defArgs s_least_of) (defBody s_least_of) (defScope s_least_of) [] [] (He.ga K "least_of") fd := by
  obtain ⟨fd, Fd⟩ := X.d_least_of
  exact ⟨fd, Fd.bindsN fun _ _ _ _ _ _ us hl => match us, hl with | [_, _], _ => rfl, Fd⟩
theorem ok_least_of {fd : FuncData} (Fd : FunD K "least_of" "least_of" (defArgs s_least_of) (defBody s_least_of) (defScope s_least_of) [] [] (He.ga K "least_of") fd) (X : Fx K mg) (AA : ∀ j, j ≤ k → All P w K mg base j) (B : Tbs K base mg) : FnOk P w K mg base (L2.CX P w) (k + 1) (He.ga K "least_of") fd ["days", "number"] (spOf K (T K) Lib (k + 1) 69) := by
  have A := AA k (Nat.le_refl k)
  refine fn_ok Fd sc_least_of (d := f_least_of) rfl rfl rfl fun cdv Ar outer s H E hr => ?_
  have nd := sc_least_of.nd
  show GSs _ _ _ _ (b_least_of (callN Lib k))
  exact (gss_one (gs_ret (ge_fn A.o_row_of hr (takes_of rfl rfl rfl rfl) (by rfl) (ga_cons (ge_tup (k := 2) rfl (by decide) (ga_cons (ge_fn A.o_frac hr (takes_of rfl rfl rfl rfl) (by rfl) (ga_cons (ge_var 1 (pv 1)) (ga_cons (ge_var 0 (pv 0)) ga_nil))) (ga_cons (ge_ctup (by rfl) X.c_ZERO) ga_nil)) rfl) (ga_cons ge_int (ga_cons (ge_var 0 (pv 0)) ga_nil))))))
theorem st_least_of (X : Fx K mg) (AA : ∀ j, j ≤ k → All P w K mg base j) (B : Tbs K base mg) : FnO P w K mg base (T K) Lib (k + 1) 69 "least_of" (He.ga K "least_of") ["days", "number"] :=
  (bn_least_of X).elim fun fd z => ⟨X.g_least_of, z.2.kp, fd, z.1, ok_least_of z.2 X AA B⟩
theorem sc_least_round : FnScope ["days", "number"] ["days", "number"] (defScope s_least_round) := ⟨rfl, rfl, rfl, by decide +kernel, rfl, by decide +kernel, by decide +kernel⟩
theorem bn_least_round (X : Fx K mg) : ∃ fd, Binds K fd ["days", "number"] [] ∧ FunD K "least_round" "least_round" (defArgs s_least_round) (defBody s_least_round) (defScope s_least_round) [] [] (He.ga K "least_round") fd := by
  obtain ⟨fd, Fd⟩ := X.d_least_round
  exact ⟨fd, Fd.bindsN fun _ _ _ _ _ _ us hl => match us, hl with | [_, _], _ => rfl, Fd⟩
theorem ok_least_round {fd : FuncData} (Fd : FunD K "least_round" "least_round" (defArgs s_least_round) (defBody s_least_round) (defScope s_least_round) [] [] (He.ga K "least_round") fd) (X : Fx K mg) (AA : ∀ j, j ≤ k → All P w K mg base j) (B : Tbs K base mg) : FnOk P w K mg base (L2.CX P w) (k + 1) (He.ga K "least_round") fd ["days", "number"] (spOf K (T K) Lib (k + 1) 70) := by
  have A := AA k (Nat.le_refl k)
  refine fn_ok Fd sc_least_round (d := f_least_round) rfl rfl rfl fun cdv Ar outer s H E hr => ?_
  have nd := sc_least_round.nd
  show GSs _ _ _ _ (b_least_round (callN Lib k))
  exact (gss_cons (gs_if (GW.gt (gw_or (gt_not (gt_val (ge_fn A.o_is_within hr (takes_of rfl rfl rfl rfl) (by rfl) (ga_cons (ge_var 0 (pv 0)) (ga_cons ge_int (ga_cons (ge_cint (by rfl) X.c_MOST_DAYS) ga_nil)))))) (gw_or1 (gt_not (gt_val (ge_fn A.o_is_within hr (takes_of rfl rfl rfl rfl) (by rfl) (ga_cons (ge_var 1 (pv 1)) (ga_cons ge_int (ga_cons (ge_var 0 (pv 0)) ga_nil))))))))) (gss_one (gs_raise0 X.e_BadNumber rfl (takes_of rfl rfl rfl rfl) (by rfl))) gss_nil) (gss_one (gs_ret (ge_fn A.o_least_of hr (takes_of rfl rfl rfl rfl) (by rfl) (ga_cons (ge_var 0 (pv 0)) (ga_cons (ge_var 1 (pv 1)) ga_nil))))))
theorem st_least_round (X : Fx K mg) (AA : ∀ j, j ≤ k → All P w K mg base j) (B : Tbs K base mg) : FnO P w K mg base (T K) Lib (k + 1) 70 "least_round" (He.ga K "least_round") ["days", "number"] :=
  (bn_least_round X).elim fun fd z => ⟨X.g_least_round, z.2.kp, fd, z.1, ok_least_round z.2 X AA B⟩
theorem sc_is_even : FnScope ["thing"] ["thing"] (defScope s_is_even) := ⟨rfl, rfl, rfl, by decide +kernel, rfl, by decide +kernel, by decide +kernel⟩
theorem bn_is_even (X : Fx K mg) : ∃ fd, Binds K fd ["thing"] [] ∧ FunD K "is_even" "is_even" (defArgs s_is_even) (defBody s_is_even) (defScope s_is_even) [] [] (He.ga K "is_even") fd := by
  obtain ⟨fd, Fd⟩ := X.d_is_even
  exact ⟨fd, Fd.bindsN fun _ _ _ _ _ _ us hl => match us, hl with | [_], _ => rfl, Fd⟩
theorem ok_is_even {fd : FuncData} (Fd : FunD K "is_even" "is_even" (defArgs s_is_even) (defBody s_is_even) (defScope s_is_even) [] [] (He.ga K "is_even") fd) (X : Fx K mg) (AA : ∀ j, j ≤ k → All P w K mg base j) (B : Tbs K base mg) : FnOk P w K mg base (L2.CX P w) (k + 1) (He.ga K "is_even") fd ["thing"] (spOf K (T K) Lib (k + 1) 59) := by
  have A := AA k (Nat.le_refl k)
  refine fn_ok Fd sc_is_even (d := f_is_even) rfl rfl rfl fun cdv Ar outer s H E hr => ?_
  have nd := sc_is_even.nd
  show GSs _ _ _ _ (b_is_even (callN Lib k))
  exact (gss_one (gs_ret (ge_and (ge_fn A.o_is_row hr (takes_of rfl rfl rfl rfl) (by rfl) (ga_cons (ge_var 0 (pv 0)) ga_nil)) (ge_one (ge_isN (ge_fn A.o_first_pair hr (takes_of rfl rfl rfl rfl) (by rfl) (ga_cons (ge_var 0 (pv 0)) ga_nil)))))))
theorem st_is_even (X : Fx K mg) (AA : ∀ j, j ≤ k → All P w K mg base j) (B : Tbs K base mg) : FnO P w K mg base (T K) Lib (k + 1) 59 "is_even" (He.ga K "is_even") ["thing"] :=
  (bn_is_even X).elim fun fd z => ⟨X.g_is_even, z.2.kp, fd, z.1, ok_is_even z.2 X AA B⟩
theorem sc_law_hand : FnScope ["script", "cells", "cell"] ["script"] (defScope s_law_hand) := ⟨rfl, rfl, rfl, by decide +kernel, rfl, by decide +kernel, by decide +kernel⟩
theorem bn_law_hand (X : Fx K mg) : ∃ fd, Binds K fd ["script"] [] ∧ FunD K "_law_hand" "_law_hand" (defArgs s_law_hand) (defBody s_law_hand) (defScope s_law_hand) [] [] (He.ga K "_law_hand") fd := by
  obtain ⟨fd, Fd⟩ := X.d_law_hand
  exact ⟨fd, Fd.bindsN fun _ _ _ _ _ _ us hl => match us, hl with | [_], _ => rfl, Fd⟩
theorem ok_law_hand {fd : FuncData} (Fd : FunD K "_law_hand" "_law_hand" (defArgs s_law_hand) (defBody s_law_hand) (defScope s_law_hand) [] [] (He.ga K "_law_hand") fd) (X : Fx K mg) (AA : ∀ j, j ≤ k → All P w K mg base j) (B : Tbs K base mg) : FnOk P w K mg base (L2.CX P w) (k + 1) (He.ga K "_law_hand") fd ["script"] (spOf K (T K) Lib (k + 1) 231) := by
  have A := AA k (Nat.le_refl k)
  refine fn_ok Fd sc_law_hand (d := f_law_hand_v7) rfl rfl rfl fun cdv Ar outer s H E hr => ?_
  have nd := sc_law_hand.nd
  show GSs _ _ _ _ (b_law_hand_v7 (callN Lib k))
  exact (gss_cons (gs_setLc (i := 1) (own := [("cell", 2)]) rfl nd rfl rfl (sw_true rfl rfl rfl (by decide +kernel)) (gi_seq (ge_cutU (ge_var 0 (pv 0)) ge_int)) (blkOk_by (N := ["script", "cells", "cell"]) (sc := defScope s_law_hand) (own := [("cell", 2)]) (by decide +kernel)) (by decide) (fun _ _ _ _ _ => (gp_name (pg_name (i := 2) nd rfl (by first | exact Or.inl rfl | exact Or.inr rfl)))) (fun _ _ _ _ _ => gts_nil) (fun _ _ _ _ _ => (ge_blt call_abs ok_abs (by rfl) X.b_abs bt_abs (ga_cons (ge_ty cr_int ok_int (by rfl) X.b_int bt_int (ga_cons (ge_var 2 (pv 2)) ga_nil)) ga_nil)))) (gss_one (gs_ret (ge_lstM (ga_cons (ge_var 1 (pv 1)) (ga_cons ge_int (ga_cons ge_int (ga_cons (ge_op or_add ok_add ge_int (ge_op or_mul ok_mul ge_int (ge_blt or_len ok_len (by rfl) X.b_len bt_len (ga_cons (ge_var 1 (pv 1)) ga_nil)))) (ga_cons ge_int ga_nil)))))))))
theorem st_law_hand (X : Fx K mg) (AA : ∀ j, j ≤ k → All P w K mg base j) (B : Tbs K base mg) : FnO P w K mg base (T K) Lib (k + 1) 231 "_law_hand" (He.ga K "_law_hand") ["script"] :=
  (bn_law_hand X).elim fun fd z => ⟨X.g_law_hand, z.2.kp, fd, z.1, ok_law_hand z.2 X AA B⟩
theorem sc_law_draw : FnScope ["hand", "many", "cell", "digit", "number"] ["hand", "many"] (defScope s_law_draw) := ⟨rfl, rfl, rfl, by decide +kernel, rfl, by decide +kernel, by decide +kernel⟩
theorem bn_law_draw (X : Fx K mg) : ∃ fd, Binds K fd ["hand", "many"] [] ∧ FunD K "_law_draw" "_law_draw" (defArgs s_law_draw) (defBody s_law_draw) (defScope s_law_draw) [] [] (He.ga K "_law_draw") fd := by
  obtain ⟨fd, Fd⟩ := X.d_law_draw
  exact ⟨fd, Fd.bindsN fun _ _ _ _ _ _ us hl => match us, hl with | [_, _], _ => rfl, Fd⟩
theorem ok_law_draw {fd : FuncData} (Fd : FunD K "_law_draw" "_law_draw" (defArgs s_law_draw) (defBody s_law_draw) (defScope s_law_draw) [] [] (He.ga K "_law_draw") fd) (X : Fx K mg) (AA : ∀ j, j ≤ k → All P w K mg base j) (B : Tbs K base mg) : FnOk P w K mg base (L2.CX P w) (k + 1) (He.ga K "_law_draw") fd ["hand", "many"] (spOf K (T K) Lib (k + 1) 232) := by
  have A := AA k (Nat.le_refl k)
  refine fn_ok Fd sc_law_draw (d := f_law_draw_v3) rfl rfl rfl fun cdv Ar outer s H E hr => ?_
  have nd := sc_law_draw.nd
  show GSs _ _ _ _ (b_law_draw_v3 (callN Lib k))
  exact (gss_cons (gs_if (GW.gt (gw_and (gt_cmp (or_eq hr.units) ok_eq (ge_ix ix_seq ok_ix (ge_var 0 (pv 0)) ge_int (fun _ _ => rfl)) ge_int (nomark _)) (gw_and1 (gt_cmp op_lt (ok_cmp _) (ge_ix ix_seq ok_ix (ge_var 0 (pv 0)) ge_int (fun _ _ => rfl)) (ge_blt or_len ok_len (by rfl) X.b_len bt_len (ga_cons (ge_ix ix_seq ok_ix (ge_var 0 (pv 0)) ge_int (fun _ _ => rfl)) ga_nil)) (nomark _))))) (gss_cons (gs_set (ps_set (i := 2) nd rfl (by first | exact Or.inl rfl | exact Or.inr rfl) (ge_ix ix_seq ok_ix (ge_ix ix_seq ok_ix (ge_var 0 (pv 0)) ge_int (fun _ _ => rfl)) (ge_ix ix_seq ok_ix (ge_var 0 (pv 0)) ge_int (fun _ _ => rfl)) (fun _ _ => rfl)))) (gss_cons (gs_setIx (ps_asg (ge_op or_add ok_add (ge_ix ix_seq ok_ix (ge_var 0 (pv 0)) ge_int (fun _ _ => rfl)) ge_int) (pg_sub (ge_var 0 (pv 0)) ge_int set_list))) (gss_cons (gs_setIx (ps_asg (ge_op op_modN ok_mod (ge_ty cr_int ok_int (by rfl) X.b_int bt_int (ga_cons (ge_op or_add ok_add (ge_op or_add ok_add (ge_op or_mul ok_mul (ge_ix ix_seq ok_ix (ge_var 0 (pv 0)) ge_int (fun _ _ => rfl)) ge_int) (ge_op or_mul ok_mul (ge_var 2 (pv 2)) ge_int)) ge_int) ga_nil)) ge_int) (pg_sub (ge_var 0 (pv 0)) ge_int set_list))) (gss_one (gs_if (gt_cmp op_ge (ok_cmp _) (ge_var 2 (pv 2)) (ge_op op_pow ok_pow ge_int ge_int) (nomark _)) (gss_one (gs_setIx (ps_asg (ge_var 2 (pv 2)) (pg_sub (ge_var 0 (pv 0)) ge_int set_list)))) gss_nil))))) gss_nil) (gss_cons (gs_if (gt_cmp op_gt (ok_cmp _) (ge_ix ix_seq ok_ix (ge_var 0 (pv 0)) ge_int (fun _ _ => rfl)) ge_int (nomark _)) (gss_cons (gs_set (ps_set (i := 3) nd rfl (by first | exact Or.inl rfl | exact Or.inr rfl) (ge_op op_modN ok_mod (ge_ty cr_int ok_int (by rfl) X.b_int bt_int (ga_cons (ge_ix ix_seq ok_ix (ge_var 0 (pv 0)) ge_int (fun _ _ => rfl)) ga_nil)) (ge_var 1 (pv 1))))) (gss_cons (gs_setIx (ps_asg (ge_op or_div ok_div (ge_ix ix_seq ok_ix (ge_var 0 (pv 0)) ge_int (fun _ _ => rfl)) (ge_var 1 (pv 1))) (pg_sub (ge_var 0 (pv 0)) ge_int set_list))) (gss_one (gs_ret (ge_var 3 (pv 3)))))) gss_nil) (gss_cons (gs_setIx (ps_asg (ge_op or_add ok_add (ge_ix ix_seq ok_ix (ge_var 0 (pv 0)) ge_int (fun _ _ => rfl)) ge_int) (pg_sub (ge_var 0 (pv 0)) ge_int set_list))) (gss_cons (gs_set (ps_set (i := 4) nd rfl (by first | exact Or.inl rfl | exact Or.inr rfl) (ge_op op_modN ok_mod (ge_ty cr_int ok_int (by rfl) X.b_int bt_int (ga_cons (ge_op or_mul ok_mul (ge_ty cr_int ok_int (by rfl) X.b_int bt_int (ga_cons (ge_op or_add ok_add (ge_ix ix_seq ok_ix (ge_var 0 (pv 0)) ge_int (fun _ _ => rfl)) (ge_op or_mul ok_mul ge_int (ge_ix ix_seq ok_ix (ge_var 0 (pv 0)) ge_int (fun _ _ => rfl)))) ga_nil)) ge_int) ga_nil)) ge_int))) (gss_cons (gs_set (ps_set (i := 4) nd rfl (by first | exact Or.inl rfl | exact Or.inr rfl) (ge_op op_modN ok_mod (ge_ty cr_int ok_int (by rfl) X.b_int bt_int (ga_cons (ge_op or_mul ok_mul (ge_var 4 (pv 4)) (ge_op or_add ok_add (ge_op or_div ok_div (ge_var 4 (pv 4)) ge_int) ge_int)) ga_nil)) ge_int))) (gss_cons (gs_set (ps_set (i := 4) nd rfl (by first | exact Or.inl rfl | exact Or.inr rfl) (ge_op op_modN ok_mod (ge_ty cr_int ok_int (by rfl) X.b_int bt_int (ga_cons (ge_op or_mul ok_mul (ge_var 4 (pv 4)) (ge_op or_add ok_add (ge_op or_div ok_div (ge_var 4 (pv 4)) ge_int) ge_int)) ga_nil)) ge_int))) (gss_one (gs_ret (ge_op op_modN ok_mod (ge_ty cr_int ok_int (by rfl) X.b_int bt_int (ga_cons (ge_op or_div ok_div (ge_var 4 (pv 4)) ge_int) ga_nil)) (ge_var 1 (pv 1)))))))))))
theorem st_law_draw (X : Fx K mg) (AA : ∀ j, j ≤ k → All P w K mg base j) (B : Tbs K base mg) : FnO P w K mg base (T K) Lib (k + 1) 232 "_law_draw" (He.ga K "_law_draw") ["hand", "many"] :=
  (bn_law_draw X).elim fun fd z => ⟨X.g_law_draw, z.2.kp, fd, z.1, ok_law_draw z.2 X AA B⟩
theorem sc_law_any : FnScope ["hand", "some"] ["hand", "some"] (defScope s_law_any) := ⟨rfl, rfl, rfl, by decide +kernel, rfl, by decide +kernel, by decide +kernel⟩
theorem bn_law_any (X : Fx K mg) : ∃ fd, Binds K fd ["hand", "some"] [] ∧ FunD K "_law_any" "_law_any" (defArgs s_law_any) (defBody s_law_any) (defScope s_law_any) [] [] (He.ga K "_law_any") fd := by
  obtain ⟨fd, Fd⟩ := X.d_law_any
  exact ⟨fd, Fd.bindsN fun _ _ _ _ _ _ us hl => match us, hl with | [_, _], _ => rfl, Fd⟩
theorem ok_law_any {fd : FuncData} (Fd : FunD K "_law_any" "_law_any" (defArgs s_law_any) (defBody s_law_any) (defScope s_law_any) [] [] (He.ga K "_law_any") fd) (X : Fx K mg) (AA : ∀ j, j ≤ k → All P w K mg base j) (B : Tbs K base mg) : FnOk P w K mg base (L2.CX P w) (k + 1) (He.ga K "_law_any") fd ["hand", "some"] (spOf K (T K) Lib (k + 1) 233) := by
  have A := AA k (Nat.le_refl k)
  refine fn_ok Fd sc_law_any (d := f_law_any_v2) rfl rfl rfl fun cdv Ar outer s H E hr => ?_
  have nd := sc_law_any.nd
  show GSs _ _ _ _ (b_law_any_v2 (callN Lib k))
  exact (gss_one (gs_ret (ge_ix ix_seq ok_ix (ge_var 1 (pv 1)) (ge_fn A.o_law_draw hr (takes_of rfl rfl rfl rfl) (by rfl) (ga_cons (ge_var 0 (pv 0)) (ga_cons (ge_blt or_len ok_len (by rfl) X.b_len bt_len (ga_cons (ge_var 1 (pv 1)) ga_nil)) ga_nil))) (fun _ _ => rfl))))
theorem st_law_any (X : Fx K mg) (AA : ∀ j, j ≤ k → All P w K mg base j) (B : Tbs K base mg) : FnO P w K mg base (T K) Lib (k + 1) 233 "_law_any" (He.ga K "_law_any") ["hand", "some"] :=
  (bn_law_any X).elim fun fd z => ⟨X.g_law_any, z.2.kp, fd, z.1, ok_law_any z.2 X AA B⟩
theorem sc_law_same : FnScope ["one", "due", "a", "b"] ["one", "due"] (defScope s_law_same) := ⟨rfl, rfl, rfl, by decide +kernel, rfl, by decide +kernel, by decide +kernel⟩
theorem bn_law_same (X : Fx K mg) : ∃ fd, Binds K fd ["one", "due"] [] ∧ FunD K "_law_same" "_law_same" (defArgs s_law_same) (defBody s_law_same) (defScope s_law_same) [] [] (He.ga K "_law_same") fd := by
  obtain ⟨fd, Fd⟩ := X.d_law_same
  exact ⟨fd, Fd.bindsN fun _ _ _ _ _ _ us hl => match us, hl with | [_, _], _ => rfl, Fd⟩
theorem ok_law_same {fd : FuncData} (Fd : FunD K "_law_same" "_law_same" (defArgs s_law_same) (defBody s_law_same) (defScope s_law_same) [] [] (He.ga K "_law_same") fd) (X : Fx K mg) (AA : ∀ j, j ≤ k → All P w K mg base j) (B : Tbs K base mg) : FnOk P w K mg base (L2.CX P w) (k + 1) (He.ga K "_law_same") fd ["one", "due"] (spOf K (T K) Lib (k + 1) 234) := by
  have A := AA k (Nat.le_refl k)
  refine fn_ok Fd sc_law_same (d := f_law_same_v2) rfl rfl rfl fun cdv Ar outer s H E hr => ?_
  have nd := sc_law_same.nd
  show GSs _ _ _ _ (b_law_same_v2 (callN Lib k))
  exact (gss_cons (gs_if (gt_val (ge_isi2 (t := .tuple) (t' := .list) (by rfl) X.b_isinstance (ge_var 1 (pv 1)) (pe_tyname (by rfl) X.b_tuple bt_tuple) (pe_tyname (by rfl) X.b_list bt_list))) (gss_cons (gs_if (GW.gt (gw_or (gt_cmp (or_ne hr.units) ok_ne (ge_isi (t := .tuple) (by rfl) X.b_isinstance (ge_var 0 (pv 0)) (pe_tyname (by rfl) X.b_tuple bt_tuple)) (ge_isi (t := .tuple) (by rfl) X.b_isinstance (ge_var 1 (pv 1)) (pe_tyname (by rfl) X.b_tuple bt_tuple)) (nomark _)) (gw_or1 (gt_not (gt_val (ge_isi2 (t := .tuple) (t' := .list) (by rfl) X.b_isinstance (ge_var 0 (pv 0)) (pe_tyname (by rfl) X.b_tuple bt_tuple) (pe_tyname (by rfl) X.b_list bt_list))))))) (gss_one (gs_ret ge_bl)) gss_nil) (gss_one (gs_ret (ge_and (ge_cmp (or_eq hr.units) ok_eq (ge_blt or_len ok_len (by rfl) X.b_len bt_len (ga_cons (ge_var 0 (pv 0)) ga_nil)) (ge_blt or_len ok_len (by rfl) X.b_len bt_len (ga_cons (ge_var 1 (pv 1)) ga_nil)) (nomark _)) (ge_one (ge_blt (cr_all rfl) ok_all (by rfl) X.b_all bt_all (ga_cons (ge_lc (own := [("a", 2), ("b", 3)]) rfl nd (gi_zip (by rfl) X.b_zip (ga_cons (ge_var 0 (pv 0)) (ga_cons (ge_var 1 (pv 1)) ga_nil))) (blkOk_by (N := ["one", "due", "a", "b"]) (sc := defScope s_law_same) (own := [("a", 2), ("b", 3)]) (by decide +kernel)) (by decide) (fun _ _ _ _ _ => (gp_tup rfl (gps_cons (gp_name (pg_name (i := 2) nd rfl (by first | exact Or.inl rfl | exact Or.inr rfl))) (gps_cons (gp_name (pg_name (i := 3) nd rfl (by first | exact Or.inl rfl | exact Or.inr rfl))) gps_nil)))) (fun _ _ _ _ _ => gts_nil) (fun _ _ _ _ _ => (ge_fn A.o_law_same hr takes0 (by rfl) (ga_cons (ge_var 2 (pv 2)) (ga_cons (ge_var 3 (pv 3)) ga_nil))))) ga_nil))))))) gss_nil) (gss_cons (gs_if (GW.gt (gw_or (gt_val (ge_isi (t := .bool) (by rfl) X.b_isinstance (ge_var 1 (pv 1)) (pe_tyname (by rfl) X.b_bool bt_bool))) (gw_or (gt_val (ge_isi (t := .bool) (by rfl) X.b_isinstance (ge_var 0 (pv 0)) (pe_tyname (by rfl) X.b_bool bt_bool))) (gw_or (gt_isN (ge_var 1 (pv 1))) (gw_or1 (gt_isN (ge_var 0 (pv 0)))))))) (gss_one (gs_ret (ge_and (ge_cmp (or_eq hr.units) ok_eq (ge_isi (t := .bool) (by rfl) X.b_isinstance (ge_var 0 (pv 0)) (pe_tyname (by rfl) X.b_bool bt_bool)) (ge_isi (t := .bool) (by rfl) X.b_isinstance (ge_var 1 (pv 1)) (pe_tyname (by rfl) X.b_bool bt_bool)) (nomark _)) (ge_and (ge_cmp (or_eq hr.units) ok_eq (ge_isN (ge_var 0 (pv 0))) (ge_isN (ge_var 1 (pv 1))) (nomark _)) (ge_one (ge_cmp (or_eq hr.units) ok_eq (ge_var 0 (pv 0)) (ge_var 1 (pv 1)) (nomark _))))))) gss_nil) (gss_one (gs_ret (ge_and (ge_cmp (or_eq hr.units) ok_eq (ge_isi (t := .str) (by rfl) X.b_isinstance (ge_var 0 (pv 0)) (pe_tyname (by rfl) X.b_str bt_str)) (ge_isi (t := .str) (by rfl) X.b_isinstance (ge_var 1 (pv 1)) (pe_tyname (by rfl) X.b_str bt_str)) (nomark _)) (ge_and (ge_isi2 (t := .int) (t' := .str) (by rfl) X.b_isinstance (ge_var 0 (pv 0)) (pe_tyname (by rfl) X.b_int bt_int) (pe_tyname (by rfl) X.b_str bt_str)) (ge_one (ge_cmp (or_eq hr.units) ok_eq (ge_var 0 (pv 0)) (ge_var 1 (pv 1)) (nomark _)))))))))
theorem st_law_same (X : Fx K mg) (AA : ∀ j, j ≤ k → All P w K mg base j) (B : Tbs K base mg) : FnO P w K mg base (T K) Lib (k + 1) 234 "_law_same" (He.ga K "_law_same") ["one", "due"] :=
  (bn_law_same X).elim fun fd z => ⟨X.g_law_same, z.2.kp, fd, z.1, ok_law_same z.2 X AA B⟩
theorem sc_law_odd : FnScope ["hand", "deep", "turn"] ["hand"] (defScope s_law_odd) := ⟨rfl, rfl, rfl, by decide +kernel, rfl, by decide +kernel, by decide +kernel⟩
theorem bn_law_odd (X : Fx K mg) : ∃ fd, Binds K fd ["hand"] [] ∧ FunD K "_law_odd" "_law_odd" (defArgs s_law_odd) (defBody s_law_odd) (defScope s_law_odd) [] [] (He.ga K "_law_odd") fd := by
  obtain ⟨fd, Fd⟩ := X.d_law_odd
  exact ⟨fd, Fd.bindsN fun _ _ _ _ _ _ us hl => match us, hl with | [_], _ => rfl, Fd⟩
theorem ok_law_odd {fd : FuncData} (Fd : FunD K "_law_odd" "_law_odd" (defArgs s_law_odd) (defBody s_law_odd) (defScope s_law_odd) [] [] (He.ga K "_law_odd") fd) (X : Fx K mg) (AA : ∀ j, j ≤ k → All P w K mg base j) (B : Tbs K base mg) : FnOk P w K mg base (L2.CX P w) (k + 1) (He.ga K "_law_odd") fd ["hand"] (spOf K (T K) Lib (k + 1) 247) := by
  have A := AA k (Nat.le_refl k)
  refine fn_ok Fd sc_law_odd (d := f_law_odd_v2) rfl rfl rfl fun cdv Ar outer s H E hr => ?_
  have nd := sc_law_odd.nd
  show GSs _ _ _ _ (b_law_odd_v2 (callN Lib k))
  exact (gss_cons (gs_set (ps_set (i := 1) nd rfl (by first | exact Or.inl rfl | exact Or.inr rfl) ge_str)) (gss_cons (gs_for (passes_of rfl) rfl (gi_rng1 (by rfl) X.b_range (ga_cons (ge_op or_add ok_add ge_int (ge_fn A.o_law_draw hr (takes_of rfl rfl rfl rfl) (by rfl) (ga_cons (ge_var 0 (pv 0)) (ga_cons ge_int ga_nil)))) ga_nil)) (gp_name (pg_name (i := 2) nd rfl (by first | exact Or.inl rfl | exact Or.inr rfl))) (gss_one (gs_set (ps_set (i := 1) nd rfl (by first | exact Or.inl rfl | exact Or.inr rfl) (ge_ix ix_seq ok_ix (ge_lst (ga_cons (ge_tup (k := 1) rfl (by decide) (ga_cons (ge_var 1 (pv 1)) ga_nil) rfl) (ga_cons (ge_lst (ga_cons (ge_var 1 (pv 1)) ga_nil)) (ga_cons (ge_dct (gd_cons ge_int (ge_var 1 (pv 1)) gd_nil)) ga_nil)))) (ge_fn A.o_law_draw hr (takes_of rfl rfl rfl rfl) (by rfl) (ga_cons (ge_var 0 (pv 0)) (ga_cons ge_int ga_nil))) (fun _ _ => rfl)))))) (gss_one (gs_ret (ge_fn A.o_law_any hr (takes_of rfl rfl rfl rfl) (by rfl) (ga_cons (ge_var 0 (pv 0)) (ga_cons (ge_lst (ga_cons ge_non (ga_cons ge_bl (ga_cons ge_int (ga_cons (ge_un un_neg ok_neg ge_int) (ga_cons ge_str (ga_cons ge_str (ga_cons ge_str (ga_cons (ge_lst ga_nil) (ga_cons ge_dct0 (ga_cons (ge_tup (k := 1) rfl (by decide) (ga_cons ge_str ga_nil) rfl) (ga_cons (ge_lst (ga_cons ge_str (ga_cons ge_str ga_nil))) (ga_cons (ge_tup (k := 1) rfl (by decide) (ga_cons ge_non ga_nil) rfl) (ga_cons (ge_op op_pow ok_pow ge_int ge_int) (ga_cons (ge_var 1 (pv 1)) ga_nil))))))))))))))) ga_nil)))))))
theorem st_law_odd (X : Fx K mg) (AA : ∀ j, j ≤ k → All P w K mg base j) (B : Tbs K base mg) : FnO P w K mg base (T K) Lib (k + 1) 247 "_law_odd" (He.ga K "_law_odd") ["hand"] :=
  (bn_law_odd X).elim fun fd z => ⟨X.g_law_odd, z.2.kp, fd, z.1, ok_law_odd z.2 X AA B⟩
theorem sc_law_round : FnScope ["days", "number", "found", "day"] ["days", "number"] (defScope s_law_round) := ⟨rfl, rfl, rfl, by decide +kernel, rfl, by decide +kernel, by decide +kernel⟩
theorem bn_law_round (X : Fx K mg) : ∃ fd, Binds K fd ["days", "number"] [] ∧ FunD K "_law_round" "_law_round" (defArgs s_law_round) (defBody s_law_round) (defScope s_law_round) [] [] (He.ga K "_law_round") fd := by
  obtain ⟨fd, Fd⟩ := X.d_law_round
  exact ⟨fd, Fd.bindsN fun _ _ _ _ _ _ us hl => match us, hl with | [_, _], _ => rfl, Fd⟩
theorem ok_law_round {fd : FuncData} (Fd : FunD K "_law_round" "_law_round" (defArgs s_law_round) (defBody s_law_round) (defScope s_law_round) [] [] (He.ga K "_law_round") fd) (X : Fx K mg) (AA : ∀ j, j ≤ k → All P w K mg base j) (B : Tbs K base mg) : FnOk P w K mg base (L2.CX P w) (k + 1) (He.ga K "_law_round") fd ["days", "number"] (spOf K (T K) Lib (k + 1) 268) := by
  have A := AA k (Nat.le_refl k)
  refine fn_ok Fd sc_law_round (d := f_law_round) rfl rfl rfl fun cdv Ar outer s H E hr => ?_
  have nd := sc_law_round.nd
  show GSs _ _ _ _ (b_law_round (callN Lib k))
  exact (gss_cons (gs_set (ps_set (i := 2) nd rfl (by first | exact Or.inl rfl | exact Or.inr rfl) ge_str)) (gss_cons (gs_for (passes_of rfl) rfl (gi_rng1 (by rfl) X.b_range (ga_cons (ge_var 0 (pv 0)) ga_nil)) (gp_name (pg_name (i := 3) nd rfl (by first | exact Or.inl rfl | exact Or.inr rfl))) (gss_one (gs_set (ps_set (i := 2) nd rfl (by first | exact Or.inl rfl | exact Or.inr rfl) (ge_op or_add ok_add (ge_var 2 (pv 2)) (ge_if (gt_cmp op_gt (ok_cmp _) (ge_op or_div ok_div (ge_op or_mul ok_mul (ge_op or_add ok_add (ge_var 3 (pv 3)) ge_int) (ge_var 1 (pv 1))) (ge_var 0 (pv 0))) (ge_op or_div ok_div (ge_op or_mul ok_mul (ge_var 3 (pv 3)) (ge_var 1 (pv 1))) (ge_var 0 (pv 0))) (nomark _)) ge_str ge_str)))))) (gss_one (gs_ret (ge_var 2 (pv 2))))))
theorem st_law_round (X : Fx K mg) (AA : ∀ j, j ≤ k → All P w K mg base j) (B : Tbs K base mg) : FnO P w K mg base (T K) Lib (k + 1) 268 "_law_round" (He.ga K "_law_round") ["days", "number"] :=
  (bn_law_round X).elim fun fd z => ⟨X.g_law_round, z.2.kp, fd, z.1, ok_law_round z.2 X AA B⟩
theorem sc_law_counts : FnScope ["row", "found", "sign"] ["row"] (defScope s_law_counts) := ⟨rfl, rfl, rfl, by decide +kernel, rfl, by decide +kernel, by decide +kernel⟩
theorem bn_law_counts (X : Fx K mg) : ∃ fd, Binds K fd ["row"] [] ∧ FunD K "_law_counts" "_law_counts" (defArgs s_law_counts) (defBody s_law_counts) (defScope s_law_counts) [] [] (He.ga K "_law_counts") fd := by
  obtain ⟨fd, Fd⟩ := X.d_law_counts
  exact ⟨fd, Fd.bindsN fun _ _ _ _ _ _ us hl => match us, hl with | [_], _ => rfl, Fd⟩
theorem ok_law_counts {fd : FuncData} (Fd : FunD K "_law_counts" "_law_counts" (defArgs s_law_counts) (defBody s_law_counts) (defScope s_law_counts) [] [] (He.ga K "_law_counts") fd) (X : Fx K mg) (AA : ∀ j, j ≤ k → All P w K mg base j) (B : Tbs K base mg) : FnOk P w K mg base (L2.CX P w) (k + 1) (He.ga K "_law_counts") fd ["row"] (spOf K (T K) Lib (k + 1) 269) := by
  have A := AA k (Nat.le_refl k)
  refine fn_ok Fd sc_law_counts (d := f_law_counts_v2) rfl rfl rfl fun cdv Ar outer s H E hr => ?_
  have nd := sc_law_counts.nd
  show GSs _ _ _ _ (b_law_counts_v2 (callN Lib k))
  exact (gss_cons (gs_set (ps_set (i := 1) nd rfl (by first | exact Or.inl rfl | exact Or.inr rfl) (ge_lstM (ga_cons ge_int ga_nil)))) (gss_cons (gs_for (passes_of rfl) rfl (gi_seq (ge_op or_add ok_add (ge_var 0 (pv 0)) (ge_var 0 (pv 0)))) (gp_name (pg_name (i := 2) nd rfl (by first | exact Or.inl rfl | exact Or.inr rfl))) (gss_one (gs_expr (ge_mlst PySem.F.slot_list_append PySem.F.type_list_append mt_append ok_append (ge_var 1 (pv 1)) (ga_cons (ge_op or_add ok_add (ge_ix ix_seq ok_ix (ge_var 1 (pv 1)) (ge_un un_neg ok_neg ge_int) (fun _ _ => rfl)) (ge_ty cr_int ok_int (by rfl) X.b_int bt_int (ga_cons (ge_cmp (or_eq hr.units) ok_eq (ge_var 2 (pv 2)) ge_str (nomark _)) ga_nil))) ga_nil))))) (gss_one (gs_frz (gs_ret (ge_var 1 (pv 1)))))))
theorem st_law_counts (X : Fx K mg) (AA : ∀ j, j ≤ k → All P w K mg base j) (B : Tbs K base mg) : FnO P w K mg base (T K) Lib (k + 1) 269 "_law_counts" (He.ga K "_law_counts") ["row"] :=
  (bn_law_counts X).elim fun fd z => ⟨X.g_law_counts, z.2.kp, fd, z.1, ok_law_counts z.2 X AA B⟩
theorem sc_law_first_pair : FnScope ["row", "counts", "days", "length", "some", "i", "fewer", "j"] ["row"] (defScope s_law_first_pair) := ⟨rfl, rfl, rfl, by decide +kernel, rfl, by decide +kernel, by decide +kernel⟩
theorem bn_law_first_pair (X : Fx K mg) : ∃ fd, Binds K fd ["row"] [] ∧ FunD K "_law_first_pair" "_law_first_pair" (defArgs s_law_first_pair) (defBody s_law_first_pair) (defScope s_law_first_pair) [] [] (He.ga K "_law_first_pair") fd := by
  obtain ⟨fd, Fd⟩ := X.d_law_first_pair
  exact ⟨fd, Fd.bindsN fun _ _ _ _ _ _ us hl => match us, hl with | [_], _ => rfl, Fd⟩
theorem ok_law_first_pair {fd : FuncData} (Fd : FunD K "_law_first_pair" "_law_first_pair" (defArgs s_law_first_pair) (defBody s_law_first_pair) (defScope s_law_first_pair) [] [] (He.ga K "_law_first_pair") fd) (X : Fx K mg) (AA : ∀ j, j ≤ k → All P w K mg base j) (B : Tbs K base mg) : FnOk P w K mg base (L2.CX P w) (k + 1) (He.ga K "_law_first_pair") fd ["row"] (spOf K (T K) Lib (k + 1) 270) := by
  have A := AA k (Nat.le_refl k)
  refine fn_ok Fd sc_law_first_pair (d := f_law_first_pair) rfl rfl rfl fun cdv Ar outer s H E hr => ?_
  have nd := sc_law_first_pair.nd
  show GSs _ _ _ _ (b_law_first_pair (callN Lib k))
  exact (gss_cons (gs_asg (ps_asg (ge_tup (k := 2) rfl (by decide) (ga_cons (ge_fn A.o_law_counts hr (takes_of rfl rfl rfl rfl) (by rfl) (ga_cons (ge_var 0 (pv 0)) ga_nil)) (ga_cons (ge_blt or_len ok_len (by rfl) X.b_len bt_len (ga_cons (ge_var 0 (pv 0)) ga_nil)) ga_nil)) rfl) (gp_tup rfl (gps_cons (gp_name (pg_name (i := 1) nd rfl (by first | exact Or.inl rfl | exact Or.inr rfl))) (gps_cons (gp_name (pg_name (i := 2) nd rfl (by first | exact Or.inl rfl | exact Or.inr rfl))) gps_nil))))) (gss_cons (gs_for (passes_of rfl) rfl (gi_rng2 (by rfl) X.b_range (ga_cons ge_int (ga_cons (ge_var 2 (pv 2)) ga_nil))) (gp_name (pg_name (i := 3) nd rfl (by first | exact Or.inl rfl | exact Or.inr rfl))) (gss_cons (gs_set (ps_set (i := 4) nd rfl (by first | exact Or.inl rfl | exact Or.inr rfl) (ge_lc (own := [("i", 5)]) rfl nd (gi_rng1 (by rfl) X.b_range (ga_cons (ge_var 2 (pv 2)) ga_nil)) (blkOk_by (N := ["row", "counts", "days", "length", "some", "i", "fewer", "j"]) (sc := defScope s_law_first_pair) (own := [("i", 5)]) (by decide +kernel)) (by decide) (fun _ _ _ _ _ => (gp_name (pg_name (i := 5) nd rfl (by first | exact Or.inl rfl | exact Or.inr rfl)))) (fun _ _ _ _ _ => gts_nil) (fun _ _ _ _ _ => (ge_op op_sub ok_sub (ge_ix ix_seq ok_ix (ge_var 1 (pv 1)) (ge_op or_add ok_add (ge_var 5 (pv 5)) (ge_var 3 (pv 3))) (fun _ _ => rfl)) (ge_ix ix_seq ok_ix (ge_var 1 (pv 1)) (ge_var 5 (pv 5)) (fun _ _ => rfl))))))) (gss_one (gs_if (gt_cmp op_gt (ok_cmp _) (ge_op op_sub ok_sub (ge_blt (cr_max rfl) ok_maxL (by rfl) X.b_max bt_max (ga_cons (ge_var 4 (pv 4)) ga_nil)) (ge_blt (cr_min rfl) ok_minL (by rfl) X.b_min bt_min (ga_cons (ge_var 4 (pv 4)) ga_nil))) ge_int (nomark _)) (gss_one (gs_for (passes_of rfl) rfl (gi_rng1 (by rfl) X.b_range (ga_cons (ge_var 2 (pv 2)) ga_nil)) (gp_name (pg_name (i := 5) nd rfl (by first | exact Or.inl rfl | exact Or.inr rfl))) (gss_cons (gs_setLc (i := 6) (own := [("j", 7)]) rfl nd rfl rfl (sw_true rfl rfl rfl (by decide +kernel)) (gi_rng1 (by rfl) X.b_range (ga_cons (ge_var 2 (pv 2)) ga_nil)) (blkOk_by (N := ["row", "counts", "days", "length", "some", "i", "fewer", "j"]) (sc := defScope s_law_first_pair) (own := [("j", 7)]) (by decide +kernel)) (by decide) (fun _ _ _ _ _ => (gp_name (pg_name (i := 7) nd rfl (by first | exact Or.inl rfl | exact Or.inr rfl)))) (fun _ _ _ _ _ => (gts_one (gt_cmp op_gt (ok_cmp _) (ge_op op_sub ok_sub (ge_ix ix_seq ok_ix (ge_var 4 (pv 4)) (ge_var 5 (pv 5)) (fun _ _ => rfl)) (ge_ix ix_seq ok_ix (ge_var 4 (pv 4)) (ge_var 7 (pv 7)) (fun _ _ => rfl))) ge_int (nomark _)))) (fun _ _ _ _ _ => (ge_var 7 (pv 7)))) (gss_one (gs_if (gt_cmp op_gt (ok_cmp _) (ge_blt or_len ok_len (by rfl) X.b_len bt_len (ga_cons (ge_var 6 (pv 6)) ga_nil)) ge_int (nomark _)) (gss_one (gs_ret (ge_tup (k := 3) rfl (by decide) (ga_cons (ge_var 5 (pv 5)) (ga_cons (ge_ix ix_seq ok_ix (ge_var 6 (pv 6)) ge_int (fun _ _ => rfl)) (ga_cons (ge_var 3 (pv 3)) ga_nil))) rfl))) gss_nil))))) gss_nil)))) (gss_one (gs_ret ge_non))))
theorem st_law_first_pair (X : Fx K mg) (AA : ∀ j, j ≤ k → All P w K mg base j) (B : Tbs K base mg) : FnO P w K mg base (T K) Lib (k + 1) 270 "_law_first_pair" (He.ga K "_law_first_pair") ["row"] :=
  (bn_law_first_pair X).elim fun fd z => ⟨X.g_law_first_pair, z.2.kp, fd, z.1, ok_law_first_pair z.2 X AA B⟩
theorem sc_law_turn : FnScope ["row", "at"] ["row", "at"] (defScope s_law_turn) := ⟨rfl, rfl, rfl, by decide +kernel, rfl, by decide +kernel, by decide +kernel⟩
theorem bn_law_turn (X : Fx K mg) : ∃ fd, Binds K fd ["row", "at"] [] ∧ FunD K "_law_turn" "_law_turn" (defArgs s_law_turn) (defBody s_law_turn) (defScope s_law_turn) [] [] (He.ga K "_law_turn") fd := by
  obtain ⟨fd, Fd⟩ := X.d_law_turn
  exact ⟨fd, Fd.bindsN fun _ _ _ _ _ _ us hl => match us, hl with | [_, _], _ => rfl, Fd⟩
theorem ok_law_turn {fd : FuncData} (Fd : FunD K "_law_turn" "_law_turn" (defArgs s_law_turn) (defBody s_law_turn) (defScope s_law_turn) [] [] (He.ga K "_law_turn") fd) (X : Fx K mg) (AA : ∀ j, j ≤ k → All P w K mg base j) (B : Tbs K base mg) : FnOk P w K mg base (L2.CX P w) (k + 1) (He.ga K "_law_turn") fd ["row", "at"] (spOf K (T K) Lib (k + 1) 271) := by
  have A := AA k (Nat.le_refl k)
  refine fn_ok Fd sc_law_turn (d := f_law_turn_v2) rfl rfl rfl fun cdv Ar outer s H E hr => ?_
  have nd := sc_law_turn.nd
  show GSs _ _ _ _ (b_law_turn_v2 (callN Lib k))
  exact (gss_one (gs_ret (ge_op or_add ok_add (ge_cutL (ge_var 0 (pv 0)) (ge_var 1 (pv 1))) (ge_cutU (ge_var 0 (pv 0)) (ge_var 1 (pv 1))))))
theorem st_law_turn (X : Fx K mg) (AA : ∀ j, j ≤ k → All P w K mg base j) (B : Tbs K base mg) : FnO P w K mg base (T K) Lib (k + 1) 271 "_law_turn" (He.ga K "_law_turn") ["row", "at"] :=
  (bn_law_turn X).elim fun fd z => ⟨X.g_law_turn, z.2.kp, fd, z.1, ok_law_turn z.2 X AA B⟩
theorem sc_law_drawn_round : FnScope ["hand", "most", "days", "row", "kind", "change", "at", "to", "low", "high", "middle", "ahead", "behind", "day"] ["hand", "most"] (defScope s_law_drawn_round) := ⟨rfl, rfl, rfl, by decide +kernel, rfl, by decide +kernel, by decide +kernel⟩
theorem bn_law_drawn_round (X : Fx K mg) : ∃ fd, Binds K fd ["hand", "most"] [] ∧ FunD K "_law_drawn_round" "_law_drawn_round" (defArgs s_law_drawn_round) (defBody s_law_drawn_round) (defScope s_law_drawn_round) [] [] (He.ga K "_law_drawn_round") fd := by
  obtain ⟨fd, Fd⟩ := X.d_law_drawn_round
  exact ⟨fd, Fd.bindsN fun _ _ _ _ _ _ us hl => match us, hl with | [_, _], _ => rfl, Fd⟩
theorem ok_law_drawn_round {fd : FuncData} (Fd : FunD K "_law_drawn_round" "_law_drawn_round" (defArgs s_law_drawn_round) (defBody s_law_drawn_round) (defScope s_law_drawn_round) [] [] (He.ga K "_law_drawn_round") fd) (X : Fx K mg) (AA : ∀ j, j ≤ k → All P w K mg base j) (B : Tbs K base mg) : FnOk P w K mg base (L2.CX P w) (k + 1) (He.ga K "_law_drawn_round") fd ["hand", "most"] (spOf K (T K) Lib (k + 1) 272) := by
  have A := AA k (Nat.le_refl k)
  refine fn_ok Fd sc_law_drawn_round (d := f_law_drawn_round) rfl rfl rfl fun cdv Ar outer s H E hr => ?_
  have nd := sc_law_drawn_round.nd
  show GSs _ _ _ _ (b_law_drawn_round (callN Lib k))
  exact (gss_cons (gs_set (ps_set (i := 2) nd rfl (by first | exact Or.inl rfl | exact Or.inr rfl) (ge_op or_add ok_add ge_int (ge_fn A.o_law_draw hr (takes_of rfl rfl rfl rfl) (by rfl) (ga_cons (ge_var 0 (pv 0)) (ga_cons (ge_fn A.o_law_any hr (takes_of rfl rfl rfl rfl) (by rfl) (ga_cons (ge_var 0 (pv 0)) (ga_cons (ge_lst (ga_cons ge_int (ga_cons ge_int (ga_cons (ge_var 1 (pv 1)) ga_nil)))) ga_nil))) ga_nil)))))) (gss_cons (gs_swp2 (ps_par (i := 3) (j := 4) rfl nd rfl rfl (by decide) rfl rfl (ga_cons (ge_fn A.o_law_turn hr (takes_of rfl rfl rfl rfl) (by rfl) (ga_cons (ge_fn A.o_law_round hr (takes_of rfl rfl rfl rfl) (by rfl) (ga_cons (ge_var 2 (pv 2)) (ga_cons (ge_fn A.o_law_draw hr (takes_of rfl rfl rfl rfl) (by rfl) (ga_cons (ge_var 0 (pv 0)) (ga_cons (ge_op or_add ok_add (ge_var 2 (pv 2)) ge_int) ga_nil))) ga_nil))) (ga_cons (ge_fn A.o_law_draw hr (takes_of rfl rfl rfl rfl) (by rfl) (ga_cons (ge_var 0 (pv 0)) (ga_cons (ge_var 2 (pv 2)) ga_nil))) ga_nil))) (ga_cons (ge_fn A.o_law_draw hr (takes_of rfl rfl rfl rfl) (by rfl) (ga_cons (ge_var 0 (pv 0)) (ga_cons ge_int ga_nil))) ga_nil)) (by rfl))) (gss_cons (gs_if (gt_cmp (or_eq hr.units) ok_eq (ge_var 4 (pv 4)) ge_int (nomark _)) (gss_one (gs_ret (ge_join ge_str (ge_lc (own := [("day", 13)]) rfl nd (gi_rng1 (by rfl) X.b_range (ga_cons (ge_blt (call_min2 rfl) ok_min2 (by rfl) X.b_min bt_min (ga_cons (ge_var 2 (pv 2)) (ga_cons ge_int ga_nil))) ga_nil)) (blkOk_by (N := ["hand", "most", "days", "row", "kind", "change", "at", "to", "low", "high", "middle", "ahead", "behind", "day"]) (sc := defScope s_law_drawn_round) (own := [("day", 13)]) (by decide +kernel)) (by decide) (fun _ _ _ _ _ => (gp_name (pg_name (i := 13) nd rfl (by first | exact Or.inl rfl | exact Or.inr rfl)))) (fun _ _ _ _ _ => gts_nil) (fun _ _ _ _ _ => (ge_fn A.o_law_any hr takes0 (by rfl) (ga_cons (ge_var 0 (pv 0)) (ga_cons (ge_lst (ga_cons ge_str (ga_cons ge_str ga_nil))) ga_nil)))))))) gss_nil) (gss_cons (gs_for (passes_of rfl) rfl (gi_rng1 (by rfl) X.b_range (ga_cons (ge_blt (call_max2 rfl) ok_max2 (by rfl) X.b_max bt_max (ga_cons ge_int (ga_cons (ge_op op_sub ok_sub (ge_var 4 (pv 4)) ge_int) ga_nil))) ga_nil)) (gp_name (pg_name (i := 5) nd rfl (by first | exact Or.inl rfl | exact Or.inr rfl))) (gss_cons (gs_swp2 (ps_par (i := 6) (j := 7) rfl nd rfl rfl (by decide) rfl rfl (ga_cons (ge_fn A.o_law_draw hr (takes_of rfl rfl rfl rfl) (by rfl) (ga_cons (ge_var 0 (pv 0)) (ga_cons (ge_var 2 (pv 2)) ga_nil))) (ga_cons (ge_fn A.o_law_draw hr (takes_of rfl rfl rfl rfl) (by rfl) (ga_cons (ge_var 0 (pv 0)) (ga_cons (ge_var 2 (pv 2)) ga_nil))) ga_nil)) (by rfl))) (gss_cons (gs_swp2 (ps_par (i := 8) (j := 9) rfl nd rfl rfl (by decide) rfl rfl (ga_cons (ge_blt (call_min2 rfl) ok_min2 (by rfl) X.b_min bt_min (ga_cons (ge_var 6 (pv 6)) (ga_cons (ge_var 7 (pv 7)) ga_nil))) (ga_cons (ge_blt (call_max2 rfl) ok_max2 (by rfl) X.b_max bt_max (ga_cons (ge_var 6 (pv 6)) (ga_cons (ge_var 7 (pv 7)) ga_nil))) ga_nil)) (by rfl))) (gss_one (gs_if (gt_cmp op_lt (ok_cmp _) (ge_var 8 (pv 8)) (ge_var 9 (pv 9)) (nomark _)) (gss_cons (gs_set (ps_set (i := 10) nd rfl (by first | exact Or.inl rfl | exact Or.inr rfl) (ge_cutLU (ge_var 3 (pv 3)) (ge_op or_add ok_add (ge_var 8 (pv 8)) ge_int) (ge_var 9 (pv 9))))) (gss_cons (gs_swp2 (ps_par (i := 11) (j := 12) rfl nd rfl rfl (by decide) rfl rfl (ga_cons (ge_cutU (ge_var 3 (pv 3)) (ge_var 8 (pv 8))) (ga_cons (ge_cutL (ge_var 3 (pv 3)) (ge_op or_add ok_add (ge_var 9 (pv 9)) ge_int)) ga_nil)) (by rfl))) (gss_one (gs_set (ps_set (i := 3) nd rfl (by first | exact Or.inl rfl | exact Or.inr rfl) (ge_op or_add ok_add (ge_op or_add ok_add (ge_op or_add ok_add (ge_op or_add ok_add (ge_var 11 (pv 11)) (ge_ix ix_seq ok_ix (ge_var 3 (pv 3)) (ge_var 9 (pv 9)) (fun _ _ => rfl))) (ge_var 10 (pv 10))) (ge_ix ix_seq ok_ix (ge_var 3 (pv 3)) (ge_var 8 (pv 8)) (fun _ _ => rfl))) (ge_var 12 (pv 12)))))))) gss_nil))))) (gss_one (gs_ret (ge_var 3 (pv 3))))))))
theorem st_law_drawn_round (X : Fx K mg) (AA : ∀ j, j ≤ k → All P w K mg base j) (B : Tbs K base mg) : FnO P w K mg base (T K) Lib (k + 1) 272 "_law_drawn_round" (He.ga K "_law_drawn_round") ["hand", "most"] :=
  (bn_law_drawn_round X).elim fun fd z => ⟨X.g_law_drawn_round, z.2.kp, fd, z.1, ok_law_drawn_round z.2 X AA B⟩
theorem sc_law_all_rows : FnScope ["days", "rows", "day", "row"] ["days"] (defScope s_law_all_rows) := ⟨rfl, rfl, rfl, by decide +kernel, rfl, by decide +kernel, by decide +kernel⟩
theorem bn_law_all_rows (X : Fx K mg) : ∃ fd, Binds K fd ["days"] [] ∧ FunD K "_law_all_rows" "_law_all_rows" (defArgs s_law_all_rows) (defBody s_law_all_rows) (defScope s_law_all_rows) [] [] (He.ga K "_law_all_rows") fd := by
  obtain ⟨fd, Fd⟩ := X.d_law_all_rows
  exact ⟨fd, Fd.bindsN fun _ _ _ _ _ _ us hl => match us, hl with | [_], _ => rfl, Fd⟩
theorem ok_law_all_rows {fd : FuncData} (Fd : FunD K "_law_all_rows" "_law_all_rows" (defArgs s_law_all_rows) (defBody s_law_all_rows) (defScope s_law_all_rows) [] [] (He.ga K "_law_all_rows") fd) (X : Fx K mg) (AA : ∀ j, j ≤ k → All P w K mg base j) (B : Tbs K base mg) : FnOk P w K mg base (L2.CX P w) (k + 1) (He.ga K "_law_all_rows") fd ["days"] (spOf K (T K) Lib (k + 1) 274) := by
  have A := AA k (Nat.le_refl k)
  refine fn_ok Fd sc_law_all_rows (d := f_law_all_rows) rfl rfl rfl fun cdv Ar outer s H E hr => ?_
  have nd := sc_law_all_rows.nd
  show GSs _ _ _ _ (b_law_all_rows (callN Lib k))
  exact (gss_cons (gs_set (ps_set (i := 1) nd rfl (by first | exact Or.inl rfl | exact Or.inr rfl) (ge_lst (ga_cons ge_str ga_nil)))) (gss_cons (gs_for (passes_of rfl) rfl (gi_rng1 (by rfl) X.b_range (ga_cons (ge_var 0 (pv 0)) ga_nil)) (gp_name (pg_name (i := 2) nd rfl (by first | exact Or.inl rfl | exact Or.inr rfl))) (gss_one (gs_set (ps_set (i := 1) nd rfl (by first | exact Or.inl rfl | exact Or.inr rfl) (ge_op or_add ok_add (ge_lc (own := [("row", 3)]) rfl nd (gi_seq (ge_var 1 (pv 1))) (blkOk_by (N := ["days", "rows", "day", "row"]) (sc := defScope s_law_all_rows) (own := [("row", 3)]) (by decide +kernel)) (by decide) (fun _ _ _ _ _ => (gp_name (pg_name (i := 3) nd rfl (by first | exact Or.inl rfl | exact Or.inr rfl)))) (fun _ _ _ _ _ => gts_nil) (fun _ _ _ _ _ => (ge_op or_add ok_add (ge_var 3 (pv 3)) ge_str))) (ge_lc (own := [("row", 3)]) rfl nd (gi_seq (ge_var 1 (pv 1))) (blkOk_by (N := ["days", "rows", "day", "row"]) (sc := defScope s_law_all_rows) (own := [("row", 3)]) (by decide +kernel)) (by decide) (fun _ _ _ _ _ => (gp_name (pg_name (i := 3) nd rfl (by first | exact Or.inl rfl | exact Or.inr rfl)))) (fun _ _ _ _ _ => gts_nil) (fun _ _ _ _ _ => (ge_op or_add ok_add (ge_var 3 (pv 3)) ge_str)))))))) (gss_one (gs_ret (ge_var 1 (pv 1))))))
theorem st_law_all_rows (X : Fx K mg) (AA : ∀ j, j ≤ k → All P w K mg base j) (B : Tbs K base mg) : FnO P w K mg base (T K) Lib (k + 1) 274 "_law_all_rows" (He.ga K "_law_all_rows") ["days"] :=
  (bn_law_all_rows X).elim fun fd z => ⟨X.g_law_all_rows, z.2.kp, fd, z.1, ok_law_all_rows z.2 X AA B⟩
theorem sc_law_are_small_right : FnScope ["days", "found", "number", "some", "a", "b", "row"] ["days"] (defScope s_law_are_small_right) := ⟨rfl, rfl, rfl, by decide +kernel, rfl, by decide +kernel, by decide +kernel⟩
theorem bn_law_are_small_right (X : Fx K mg) : ∃ fd, Binds K fd ["days"] [] ∧ FunD K "_law_are_small_right" "_law_are_small_right" (defArgs s_law_are_small_right) (defBody s_law_are_small_right) (defScope s_law_are_small_right) [] [] (He.ga K "_law_are_small_right") fd := by
  obtain ⟨fd, Fd⟩ := X.d_law_are_small_right
  exact ⟨fd, Fd.bindsN fun _ _ _ _ _ _ us hl => match us, hl with | [_], _ => rfl, Fd⟩
theorem ok_law_are_small_right {fd : FuncData} (Fd : FunD K "_law_are_small_right" "_law_are_small_right" (defArgs s_law_are_small_right) (defBody s_law_are_small_right) (defScope s_law_are_small_right) [] [] (He.ga K "_law_are_small_right") fd) (X : Fx K mg) (AA : ∀ j, j ≤ k → All P w K mg base j) (B : Tbs K base mg) : FnOk P w K mg base (L2.CX P w) (k + 1) (He.ga K "_law_are_small_right") fd ["days"] (spOf K (T K) Lib (k + 1) 275) := by
  have A := AA k (Nat.le_refl k)
  refine fn_ok Fd sc_law_are_small_right (d := f_law_are_small_right) rfl rfl rfl fun cdv Ar outer s H E hr => ?_
  have nd := sc_law_are_small_right.nd
  show GSs _ _ _ _ (b_law_are_small_right (callN Lib k))
  exact (gss_cons (gs_setLc (i := 1) (own := [("row", 6)]) rfl nd rfl rfl (sw_true rfl rfl rfl (by decide +kernel)) (gi_seq (ge_fn A.o_law_all_rows hr (takes_of rfl rfl rfl rfl) (by rfl) (ga_cons (ge_var 0 (pv 0)) ga_nil))) (blkOk_by (N := ["days", "found", "number", "some", "a", "b", "row"]) (sc := defScope s_law_are_small_right) (own := [("row", 6)]) (by decide +kernel)) (by decide) (fun _ _ _ _ _ => (gp_name (pg_name (i := 6) nd rfl (by first | exact Or.inl rfl | exact Or.inr rfl)))) (fun _ _ _ _ _ => (gts_one (gt_isN (ge_fn A.o_law_first_pair hr takes0 (by rfl) (ga_cons (ge_var 6 (pv 6)) ga_nil))))) (fun _ _ _ _ _ => (ge_var 6 (pv 6)))) (gss_cons (gs_if (gt_cmp (or_ne hr.units) ok_ne (ge_blt cr_sortA ok_sortedI (by rfl) X.b_sorted bt_sorted (ga_cons (ge_lc (own := [("row", 6)]) rfl nd (gi_seq (ge_fn A.o_law_all_rows hr (takes_of rfl rfl rfl rfl) (by rfl) (ga_cons (ge_var 0 (pv 0)) ga_nil))) (blkOk_by (N := ["days", "found", "number", "some", "a", "b", "row"]) (sc := defScope s_law_are_small_right) (own := [("row", 6)]) (by decide +kernel)) (by decide) (fun _ _ _ _ _ => (gp_name (pg_name (i := 6) nd rfl (by first | exact Or.inl rfl | exact Or.inr rfl)))) (fun _ _ _ _ _ => (gts_one (gt_isB (ge_fn A.o_is_even_round hr takes0 (by rfl) (ga_cons (ge_var 6 (pv 6)) ga_nil))))) (fun _ _ _ _ _ => (ge_var 6 (pv 6)))) ga_nil)) (ge_blt cr_sortA ok_sortedI (by rfl) X.b_sorted bt_sorted (ga_cons (ge_var 1 (pv 1)) ga_nil)) (nomark _)) (gss_one (gs_ret ge_bl)) gss_nil) (gss_cons (gs_for (passes_of rfl) rfl (gi_rng1 (by rfl) X.b_range (ga_cons (ge_op or_add ok_add (ge_var 0 (pv 0)) ge_int) ga_nil)) (gp_name (pg_name (i := 2) nd rfl (by first | exact Or.inl rfl | exact Or.inr rfl))) (gss_cons (gs_setLc (i := 3) (own := [("row", 6)]) rfl nd rfl rfl (sw_true rfl rfl rfl (by decide +kernel)) (gi_seq (ge_var 1 (pv 1))) (blkOk_by (N := ["days", "found", "number", "some", "a", "b", "row"]) (sc := defScope s_law_are_small_right) (own := [("row", 6)]) (by decide +kernel)) (by decide) (fun _ _ _ _ _ => (gp_name (pg_name (i := 6) nd rfl (by first | exact Or.inl rfl | exact Or.inr rfl)))) (fun _ _ _ _ _ => (gts_one (gt_cmp (or_eq hr.units) ok_eq (ge_count (ge_var 6 (pv 6)) ge_str) (ge_var 2 (pv 2)) (nomark _)))) (fun _ _ _ _ _ => (ge_var 6 (pv 6)))) (gss_cons (gs_if (gt_cmp (or_ne hr.units) ok_ne (ge_fn A.o_least_round hr (takes_of rfl rfl rfl rfl) (by rfl) (ga_cons (ge_var 0 (pv 0)) (ga_cons (ge_var 2 (pv 2)) ga_nil))) (ge_blt (cr_minS rfl hr.units) ok_minS (by rfl) X.b_min bt_min (ga_cons (ge_var 3 (pv 3)) ga_nil)) (nomark _)) (gss_one (gs_ret ge_bl)) gss_nil) (gss_cons (gs_swp2 (ps_par (i := 4) (j := 5) rfl nd rfl rfl (by decide) rfl rfl (ga_cons (ge_var 0 (pv 0)) (ga_cons (ge_var 2 (pv 2)) ga_nil)) (by rfl))) (gss_cons (gs_while (passes_of rfl) (gt_cmp op_gt (ok_cmp _) (ge_var 5 (pv 5)) ge_int (nomark _)) (gss_one (gs_swp2 (ps_par (i := 4) (j := 5) rfl nd rfl rfl (by decide) rfl rfl (ga_cons (ge_var 5 (pv 5)) (ga_cons (ge_op op_modN ok_mod (ge_ty cr_int ok_int (by rfl) X.b_int bt_int (ga_cons (ge_var 4 (pv 4)) ga_nil)) (ge_var 5 (pv 5))) ga_nil)) (by rfl))))) (gss_one (gs_if (gt_cmp (or_ne hr.units) ok_ne (ge_blt or_len ok_len (by rfl) X.b_len bt_len (ga_cons (ge_var 3 (pv 3)) ga_nil)) (ge_op or_div ok_div (ge_var 0 (pv 0)) (ge_var 4 (pv 4))) (nomark _)) (gss_one (gs_ret ge_bl)) gss_nil))))))) (gss_one (gs_ret ge_bl)))))
theorem st_law_are_small_right (X : Fx K mg) (AA : ∀ j, j ≤ k → All P w K mg base j) (B : Tbs K base mg) : FnO P w K mg base (T K) Lib (k + 1) 275 "_law_are_small_right" (He.ga K "_law_are_small_right") ["days"] :=
  (bn_law_are_small_right X).elim fun fd z => ⟨X.g_law_are_small_right, z.2.kp, fd, z.1, ok_law_are_small_right z.2 X AA B⟩
theorem sc_law_is_row_right : FnScope ["row", "due", "days", "number", "least", "at"] ["row"] (defScope s_law_is_row_right) := ⟨rfl, rfl, rfl, by decide +kernel, rfl, by decide +kernel, by decide +kernel⟩
theorem bn_law_is_row_right (X : Fx K mg) : ∃ fd, Binds K fd ["row"] [] ∧ FunD K "_law_is_row_right" "_law_is_row_right" (defArgs s_law_is_row_right) (defBody s_law_is_row_right) (defScope s_law_is_row_right) [] [] (He.ga K "_law_is_row_right") fd := by
  obtain ⟨fd, Fd⟩ := X.d_law_is_row_right
  exact ⟨fd, Fd.bindsN fun _ _ _ _ _ _ us hl => match us, hl with | [_], _ => rfl, Fd⟩
theorem ok_law_is_row_right {fd : FuncData} (Fd : FunD K "_law_is_row_right" "_law_is_row_right" (defArgs s_law_is_row_right) (defBody s_law_is_row_right) (defScope s_law_is_row_right) [] [] (He.ga K "_law_is_row_right") fd) (X : Fx K mg) (AA : ∀ j, j ≤ k → All P w K mg base j) (B : Tbs K base mg) : FnOk P w K mg base (L2.CX P w) (k + 1) (He.ga K "_law_is_row_right") fd ["row"] (spOf K (T K) Lib (k + 1) 276) := by
  have A := AA k (Nat.le_refl k)
  refine fn_ok Fd sc_law_is_row_right (d := f_law_is_row_right) rfl rfl rfl fun cdv Ar outer s H E hr => ?_
  have nd := sc_law_is_row_right.nd
  show GSs _ _ _ _ (b_law_is_row_right (callN Lib k))
  exact (gss_cons (gs_set (ps_set (i := 1) nd rfl (by first | exact Or.inl rfl | exact Or.inr rfl) (ge_isN (ge_fn A.o_law_first_pair hr (takes_of rfl rfl rfl rfl) (by rfl) (ga_cons (ge_var 0 (pv 0)) ga_nil))))) (gss_cons (gs_if (gt_not (gt_val (ge_fn A.o_law_same hr (takes_of rfl rfl rfl rfl) (by rfl) (ga_cons (ge_lst (ga_cons (ge_fn A.o_is_even_round hr (takes_of rfl rfl rfl rfl) (by rfl) (ga_cons (ge_var 0 (pv 0)) ga_nil)) (ga_cons (ge_isN (ge_fn A.o_round_pair hr (takes_of rfl rfl rfl rfl) (by rfl) (ga_cons (ge_var 0 (pv 0)) ga_nil))) ga_nil))) (ga_cons (ge_lst (ga_cons (ge_var 1 (pv 1)) (ga_cons (ge_var 1 (pv 1)) ga_nil))) ga_nil))))) (gss_one (gs_ret ge_bl)) gss_nil) (gss_cons (gs_if (gt_not (gt_val (ge_var 1 (pv 1)))) (gss_one (gs_ret ge_bl)) gss_nil) (gss_cons (gs_if (gt_not (gt_val (ge_fn A.o_law_same hr (takes_of rfl rfl rfl rfl) (by rfl) (ga_cons (ge_lst (ga_cons (ge_fn A.o_is_even hr (takes_of rfl rfl rfl rfl) (by rfl) (ga_cons (ge_var 0 (pv 0)) ga_nil)) (ga_cons (ge_fn A.o_is_even_round hr (takes_of rfl rfl rfl rfl) (by rfl) (ga_cons (ge_fn A.o_complement hr (takes_of rfl rfl rfl rfl) (by rfl) (ga_cons (ge_var 0 (pv 0)) ga_nil)) ga_nil)) (ga_cons (ge_fn A.o_is_even_round hr (takes_of rfl rfl rfl rfl) (by rfl) (ga_cons (ge_fn A.o_mirrored hr (takes_of rfl rfl rfl rfl) (by rfl) (ga_cons (ge_var 0 (pv 0)) ga_nil)) ga_nil)) ga_nil)))) (ga_cons (ge_op or_mul ok_mul (ge_lst (ga_cons ge_bl ga_nil)) ge_int) ga_nil))))) (gss_one (gs_ret ge_bl)) gss_nil) (gss_cons (gs_swp2 (ps_par (i := 2) (j := 3) rfl nd rfl rfl (by decide) rfl rfl (ga_cons (ge_blt or_len ok_len (by rfl) X.b_len bt_len (ga_cons (ge_var 0 (pv 0)) ga_nil)) (ga_cons (ge_count (ge_var 0 (pv 0)) ge_str) ga_nil)) (by rfl))) (gss_cons (gs_set (ps_set (i := 4) nd rfl (by first | exact Or.inl rfl | exact Or.inr rfl) (ge_fn A.o_least_round hr (takes_of rfl rfl rfl rfl) (by rfl) (ga_cons (ge_var 2 (pv 2)) (ga_cons (ge_var 3 (pv 3)) ga_nil))))) (gss_one (gs_ret (ge_fn A.o_law_same hr (takes_of rfl rfl rfl rfl) (by rfl) (ga_cons (ge_var 4 (pv 4)) (ga_cons (ge_blt (cr_minS rfl hr.units) ok_minS (by rfl) X.b_min bt_min (ga_cons (ge_lc (own := [("at", 5)]) rfl nd (gi_rng1 (by rfl) X.b_range (ga_cons (ge_var 2 (pv 2)) ga_nil)) (blkOk_by (N := ["row", "due", "days", "number", "least", "at"]) (sc := defScope s_law_is_row_right) (own := [("at", 5)]) (by decide +kernel)) (by decide) (fun _ _ _ _ _ => (gp_name (pg_name (i := 5) nd rfl (by first | exact Or.inl rfl | exact Or.inr rfl)))) (fun _ _ _ _ _ => gts_nil) (fun _ _ _ _ _ => (ge_fn A.o_law_turn hr takes0 (by rfl) (ga_cons (ge_var 0 (pv 0)) (ga_cons (ge_var 5 (pv 5)) ga_nil))))) ga_nil)) ga_nil)))))))))))
theorem st_law_is_row_right (X : Fx K mg) (AA : ∀ j, j ≤ k → All P w K mg base j) (B : Tbs K base mg) : FnO P w K mg base (T K) Lib (k + 1) 276 "_law_is_row_right" (He.ga K "_law_is_row_right") ["row"] :=
  (bn_law_is_row_right X).elim fun fd z => ⟨X.g_law_is_row_right, z.2.kp, fd, z.1, ok_law_is_row_right z.2 X AA B⟩
theorem sc_law_are_refused : FnScope ["hand", "days", "number", "is_right", "odd"] ["hand"] (defScope s_law_are_refused) := ⟨rfl, rfl, rfl, by decide +kernel, rfl, by decide +kernel, by decide +kernel⟩
theorem bn_law_are_refused (X : Fx K mg) : ∃ fd, Binds K fd ["hand"] [] ∧ FunD K "_law_are_refused" "_law_are_refused" (defArgs s_law_are_refused) (defBody s_law_are_refused) (defScope s_law_are_refused) [] [] (He.ga K "_law_are_refused") fd := by
  obtain ⟨fd, Fd⟩ := X.d_law_are_refused
  exact ⟨fd, Fd.bindsN fun _ _ _ _ _ _ us hl => match us, hl with | [_], _ => rfl, Fd⟩
theorem ok_law_are_refused {fd : FuncData} (Fd : FunD K "_law_are_refused" "_law_are_refused" (defArgs s_law_are_refused) (defBody s_law_are_refused) (defScope s_law_are_refused) [] [] (He.ga K "_law_are_refused") fd) (X : Fx K mg) (AA : ∀ j, j ≤ k → All P w K mg base j) (B : Tbs K base mg) : FnOk P w K mg base (L2.CX P w) (k + 1) (He.ga K "_law_are_refused") fd ["hand"] (spOf K (T K) Lib (k + 1) 277) := by
  have A := AA k (Nat.le_refl k)
  refine fn_okC Fd sc_law_are_refused (d := f_law_are_refused) rfl rfl rfl fun cdv hcd Ar outer s H E hr => ?_
  obtain rfl := cdv_of hcd
  have nd := sc_law_are_refused.nd
  show GSs _ _ _ _ (b_law_are_refused (callN Lib k))
  exact (gss_cons (gs_set (ps_set (i := 1) nd rfl (by first | exact Or.inl rfl | exact Or.inr rfl) (ge_fn A.o_law_any hr (takes_of rfl rfl rfl rfl) (by rfl) (ga_cons (ge_var 0 (pv 0)) (ga_cons (ge_lst (ga_cons ge_int (ga_cons ge_int (ga_cons (ge_un un_neg ok_neg ge_int) (ga_cons ge_non (ga_cons ge_bl (ga_cons ge_str (ga_cons (ge_tup (k := 1) rfl (by decide) (ga_cons ge_int ga_nil) rfl) (ga_cons (ge_op op_pow ok_pow ge_int ge_int) (ga_cons (ge_fn A.o_law_odd hr (takes_of rfl rfl rfl rfl) (by rfl) (ga_cons (ge_var 0 (pv 0)) ga_nil)) (ga_cons ge_int ga_nil))))))))))) ga_nil))))) (gss_cons (gs_set (ps_set (i := 2) nd rfl (by first | exact Or.inl rfl | exact Or.inr rfl) (ge_fn A.o_law_any hr (takes_of rfl rfl rfl rfl) (by rfl) (ga_cons (ge_var 0 (pv 0)) (ga_cons (ge_lst (ga_cons (ge_un un_neg ok_neg ge_int) (ga_cons ge_int (ga_cons ge_non (ga_cons ge_bl (ga_cons ge_str (ga_cons (ge_op op_pow ok_pow ge_int ge_int) (ga_cons (ge_lst (ga_cons ge_int ga_nil)) (ga_cons ge_int ga_nil))))))))) ga_nil))))) (gss_cons (gs_set (ps_set (i := 3) nd rfl (by first | exact Or.inl rfl | exact Or.inr rfl) (ge_and (ge_cmp (or_eqK hr.units) ok_eqK (ge_var 1 (pv 1)) ge_int (nomark _)) (ge_one (ge_cmp (or_eqK hr.units) ok_eqK (ge_var 2 (pv 2)) ge_int (nomark _)))))) (gss_cons (gs_if (gt_cmp (or_ne hr.units) ok_ne (ge_toldC (by rfl) fun j hj => (bn_law_word X).elim fun fd z => ge_told (k := j) (c := (He.cT K ("_law_are_refused", none)).1) (P := (He.cT K ("_law_are_refused", none)).2) z.2 (by rfl) X.g_law_word z.1 sc_law_word rfl (by first | exact Or.inl rfl | exact Or.inr rfl) rfl (fun cdg f pn s H th act => td_law_word X act) B.tb_law_are_refused rfl (.head _) (fun q hq e => tabU_ok X.u q hq _ (.head _) e) (by subst hj; exact hr) (LamX.lamS_by (show LamX.lamSB (defScope s_law_are_refused) _ = true from by decide +kernel)) rfl (fun _ _ _ _ _ => rfl) (fun Ar outer s H E f c1 hr => (ge_fnB hj (by rfl) (AA j (by omega)).o_least_round hr (takes_of rfl rfl rfl rfl) (by rfl) (ga_cons (ge_var 1 (pv 1)) (ga_cons (ge_var 2 (pv 2)) ga_nil))))) (ge_if (gt_val (ge_var 3 (pv 3))) ge_str ge_str) (nomark _)) (gss_one (gs_ret ge_bl)) gss_nil) (gss_cons (gs_set (ps_set (i := 4) nd rfl (by first | exact Or.inl rfl | exact Or.inr rfl) (ge_fn A.o_law_any hr (takes_of rfl rfl rfl rfl) (by rfl) (ga_cons (ge_var 0 (pv 0)) (ga_cons (ge_lst (ga_cons (ge_fn A.o_law_odd hr (takes_of rfl rfl rfl rfl) (by rfl) (ga_cons (ge_var 0 (pv 0)) ga_nil)) (ga_cons ge_str (ga_cons (ge_op or_mul ok_mul ge_str ge_int) (ga_cons ge_str (ga_cons ge_str (ga_cons (ge_tup (k := 2) rfl (by decide) (ga_cons ge_str (ga_cons ge_str ga_nil)) rfl) (ga_cons ge_int ga_nil)))))))) ga_nil))))) (gss_one (gs_ret (ge_isB (ge_fn A.o_is_even_round hr (takes_of rfl rfl rfl rfl) (by rfl) (ga_cons (ge_var 4 (pv 4)) ga_nil))))))))))
theorem st_law_are_refused (X : Fx K mg) (AA : ∀ j, j ≤ k → All P w K mg base j) (B : Tbs K base mg) : FnO P w K mg base (T K) Lib (k + 1) 277 "_law_are_refused" (He.ga K "_law_are_refused") ["hand"] :=
  (bn_law_are_refused X).elim fun fd z => ⟨X.g_law_are_refused, z.2.kp, fd, z.1, ok_law_are_refused z.2 X AA B⟩
theorem sc_law : FnScope ["script", "hand", "turn", "days"] ["script"] (defScope s_law) := ⟨rfl, rfl, rfl, by decide +kernel, rfl, by decide +kernel, by decide +kernel⟩
theorem bn_law (X : Fx K mg) : ∃ fd, Binds K fd ["script"] [] ∧ FunD K "law" "law" (defArgs s_law) (defBody s_law) (defScope s_law) [] [] (He.ga K "law") fd := by
  obtain ⟨fd, Fd⟩ := X.d_law
  exact ⟨fd, Fd.bindsN fun _ _ _ _ _ _ us hl => match us, hl with | [_], _ => rfl, Fd⟩
theorem ok_law {fd : FuncData} (Fd : FunD K "law" "law" (defArgs s_law) (defBody s_law) (defScope s_law) [] [] (He.ga K "law") fd) (X : Fx K mg) (AA : ∀ j, j ≤ k → All P w K mg base j) (B : Tbs K base mg) : FnOk P w K mg base (L2.CX P w) (k + 1) (He.ga K "law") fd ["script"] (spOf K (T K) Lib (k + 1) 278) := by
  have A := AA k (Nat.le_refl k)
  refine fn_ok Fd sc_law (d := f_law_v15) rfl rfl rfl fun cdv Ar outer s H E hr => ?_
  have nd := sc_law.nd
  show GSs _ _ _ _ (b_law_v15 (callN Lib k))
  exact (gss_cons (gs_set (ps_set (i := 1) nd rfl (by first | exact Or.inl rfl | exact Or.inr rfl) (ge_fn A.o_law_hand hr (takes_of rfl rfl rfl rfl) (by rfl) (ga_cons (ge_var 0 (pv 0)) ga_nil)))) (gss_cons (gs_if (gt_not (gt_val (ge_fn A.o_law_same hr (takes_of rfl rfl rfl rfl) (by rfl) (ga_cons (ge_lst (ga_cons (ge_fn A.o_least_round hr (takes_of rfl rfl rfl rfl) (by rfl) (ga_cons ge_int (ga_cons ge_int ga_nil))) (ga_cons (ge_fn A.o_is_even_round hr (takes_of rfl rfl rfl rfl) (by rfl) (ga_cons ge_str ga_nil)) (ga_cons (ge_fn A.o_is_even_round hr (takes_of rfl rfl rfl rfl) (by rfl) (ga_cons ge_str ga_nil)) ga_nil)))) (ga_cons (ge_lst (ga_cons ge_str (ga_cons ge_bl (ga_cons ge_bl ga_nil)))) ga_nil))))) (gss_one (gs_ret ge_bl)) gss_nil) (gss_cons (gs_if (gt_not (gt_val (ge_fn A.o_law_are_small_right hr (takes_of rfl rfl rfl rfl) (by rfl) (ga_cons (ge_op or_add ok_add ge_int (ge_fn A.o_law_draw hr (takes_of rfl rfl rfl rfl) (by rfl) (ga_cons (ge_var 1 (pv 1)) (ga_cons ge_int ga_nil)))) ga_nil)))) (gss_one (gs_ret ge_bl)) gss_nil) (gss_cons (gs_for (passes_of rfl) rfl (gi_rng1 (by rfl) X.b_range (ga_cons ge_int ga_nil)) (gp_name (pg_name (i := 2) nd rfl (by first | exact Or.inl rfl | exact Or.inr rfl))) (gss_one (gs_if (GW.gt (gw_or (gt_not (gt_val (ge_fn A.o_law_is_row_right hr (takes_of rfl rfl rfl rfl) (by rfl) (ga_cons (ge_fn A.o_law_drawn_round hr (takes_of rfl rfl rfl rfl) (by rfl) (ga_cons (ge_var 1 (pv 1)) (ga_cons (ge_fn A.o_law_any hr (takes_of rfl rfl rfl rfl) (by rfl) (ga_cons (ge_var 1 (pv 1)) (ga_cons (ge_lst (ga_cons ge_int (ga_cons ge_int ga_nil))) ga_nil))) ga_nil))) ga_nil)))) (gw_or1 (gt_not (gt_val (ge_fn A.o_law_are_refused hr (takes_of rfl rfl rfl rfl) (by rfl) (ga_cons (ge_var 1 (pv 1)) ga_nil))))))) (gss_one (gs_ret ge_bl)) gss_nil))) (gss_cons (gs_if (gt_cmp op_gt (ok_cmp _) (ge_fn A.o_law_draw hr (takes_of rfl rfl rfl rfl) (by rfl) (ga_cons (ge_var 1 (pv 1)) (ga_cons ge_int ga_nil))) ge_int (nomark _)) (gss_one (gs_ret ge_bl)) gss_nil) (gss_cons (gs_set (ps_set (i := 3) nd rfl (by first | exact Or.inl rfl | exact Or.inr rfl) (ge_fn A.o_law_any hr (takes_of rfl rfl rfl rfl) (by rfl) (ga_cons (ge_var 1 (pv 1)) (ga_cons (ge_lst (ga_cons ge_int (ga_cons ge_int (ga_cons (ge_op or_add ok_add ge_int (ge_fn A.o_law_draw hr (takes_of rfl rfl rfl rfl) (by rfl) (ga_cons (ge_var 1 (pv 1)) (ga_cons ge_int ga_nil)))) ga_nil)))) ga_nil))))) (gss_one (gs_ret (ge_fn A.o_law_is_row_right hr (takes_of rfl rfl rfl rfl) (by rfl) (ga_cons (ge_fn A.o_law_turn hr (takes_of rfl rfl rfl rfl) (by rfl) (ga_cons (ge_fn A.o_law_round hr (takes_of rfl rfl rfl rfl) (by rfl) (ga_cons (ge_var 3 (pv 3)) (ga_cons (ge_fn A.o_law_draw hr (takes_of rfl rfl rfl rfl) (by rfl) (ga_cons (ge_var 1 (pv 1)) (ga_cons (ge_op or_add ok_add (ge_var 3 (pv 3)) ge_int) ga_nil))) ga_nil))) (ga_cons (ge_fn A.o_law_draw hr (takes_of rfl rfl rfl rfl) (by rfl) (ga_cons (ge_var 1 (pv 1)) (ga_cons (ge_var 3 (pv 3)) ga_nil))) ga_nil))) ga_nil))))))))))
theorem st_law (X : Fx K mg) (AA : ∀ j, j ≤ k → All P w K mg base j) (B : Tbs K base mg) : FnO P w K mg base (T K) Lib (k + 1) 278 "law" (He.ga K "law") ["script"] :=
  (bn_law X).elim fun fd z => ⟨X.g_law, z.2.kp, fd, z.1, ok_law z.2 X AA B⟩
theorem all_zero (X : Fx K mg) : All P w K mg base 0 where
  o_is_integer := (bn_is_integer X).elim fun fd z => ⟨X.g_is_integer, z.2.kp, fd, z.1, fn_zero⟩
  o_is_within := (bn_is_within X).elim fun fd z => ⟨X.g_is_within, z.2.kp, fd, z.1, fn_zero⟩
  o_common := (bn_common X).elim fun fd z => ⟨X.g_common, z.2.kp, fd, z.1, fn_zero⟩
  o_frac := (bn_frac X).elim fun fd z => ⟨X.g_frac, z.2.kp, fd, z.1, fn_zero⟩
  o_is_signs := (bn_is_signs X).elim fun fd z => ⟨X.g_is_signs, z.2.kp, fd, z.1, fn_zero⟩
  o_is_row := (bn_is_row X).elim fun fd z => ⟨X.g_is_row, z.2.kp, fd, z.1, fn_zero⟩
  o_check_row := (bn_check_row X).elim fun fd z => ⟨X.g_check_row, z.2.kp, fd, z.1, fn_zero⟩
  o_sums_of := (bn_sums_of X).elim fun fd z => ⟨X.g_sums_of, z.2.kp, fd, z.1, fn_zero⟩
  o_complement := (bn_complement X).elim fun fd z => ⟨X.g_complement, z.2.kp, fd, z.1, fn_zero⟩
  o_mirrored := (bn_mirrored X).elim fun fd z => ⟨X.g_mirrored, z.2.kp, fd, z.1, fn_zero⟩
  o_pair_of_length := (bn_pair_of_length X).elim fun fd z => ⟨X.g_pair_of_length, z.2.kp, fd, z.1, fn_zero⟩
  o_first_pair := (bn_first_pair X).elim fun fd z => ⟨X.g_first_pair, z.2.kp, fd, z.1, fn_zero⟩
  o_total_to := (bn_total_to X).elim fun fd z => ⟨X.g_total_to, z.2.kp, fd, z.1, fn_zero⟩
  o_row_of := (bn_row_of X).elim fun fd z => ⟨X.g_row_of, z.2.kp, fd, z.1, fn_zero⟩
  o_pair_round := (bn_pair_round X).elim fun fd z => ⟨X.g_pair_round, z.2.kp, fd, z.1, fn_zero⟩
  o_is_even_round := (bn_is_even_round X).elim fun fd z => ⟨X.g_is_even_round, z.2.kp, fd, z.1, fn_zero⟩
  o_round_pair := (bn_round_pair X).elim fun fd z => ⟨X.g_round_pair, z.2.kp, fd, z.1, fn_zero⟩
  o_least_of := (bn_least_of X).elim fun fd z => ⟨X.g_least_of, z.2.kp, fd, z.1, fn_zero⟩
  o_least_round := (bn_least_round X).elim fun fd z => ⟨X.g_least_round, z.2.kp, fd, z.1, fn_zero⟩
  o_is_even := (bn_is_even X).elim fun fd z => ⟨X.g_is_even, z.2.kp, fd, z.1, fn_zero⟩
  o_law_hand := (bn_law_hand X).elim fun fd z => ⟨X.g_law_hand, z.2.kp, fd, z.1, fn_zero⟩
  o_law_draw := (bn_law_draw X).elim fun fd z => ⟨X.g_law_draw, z.2.kp, fd, z.1, fn_zero⟩
  o_law_any := (bn_law_any X).elim fun fd z => ⟨X.g_law_any, z.2.kp, fd, z.1, fn_zero⟩
  o_law_same := (bn_law_same X).elim fun fd z => ⟨X.g_law_same, z.2.kp, fd, z.1, fn_zero⟩
  o_law_odd := (bn_law_odd X).elim fun fd z => ⟨X.g_law_odd, z.2.kp, fd, z.1, fn_zero⟩
  o_law_round := (bn_law_round X).elim fun fd z => ⟨X.g_law_round, z.2.kp, fd, z.1, fn_zero⟩
  o_law_counts := (bn_law_counts X).elim fun fd z => ⟨X.g_law_counts, z.2.kp, fd, z.1, fn_zero⟩
  o_law_first_pair := (bn_law_first_pair X).elim fun fd z => ⟨X.g_law_first_pair, z.2.kp, fd, z.1, fn_zero⟩
  o_law_turn := (bn_law_turn X).elim fun fd z => ⟨X.g_law_turn, z.2.kp, fd, z.1, fn_zero⟩
  o_law_drawn_round := (bn_law_drawn_round X).elim fun fd z => ⟨X.g_law_drawn_round, z.2.kp, fd, z.1, fn_zero⟩
  o_law_all_rows := (bn_law_all_rows X).elim fun fd z => ⟨X.g_law_all_rows, z.2.kp, fd, z.1, fn_zero⟩
  o_law_are_small_right := (bn_law_are_small_right X).elim fun fd z => ⟨X.g_law_are_small_right, z.2.kp, fd, z.1, fn_zero⟩
  o_law_is_row_right := (bn_law_is_row_right X).elim fun fd z => ⟨X.g_law_is_row_right, z.2.kp, fd, z.1, fn_zero⟩
  o_law_are_refused := (bn_law_are_refused X).elim fun fd z => ⟨X.g_law_are_refused, z.2.kp, fd, z.1, fn_zero⟩
  o_law := (bn_law X).elim fun fd z => ⟨X.g_law, z.2.kp, fd, z.1, fn_zero⟩
theorem all_succ (X : Fx K mg) (AA : ∀ j, j ≤ k → All P w K mg base j) (B : Tbs K base mg) : All P w K mg base (k + 1) where
  o_is_integer := st_is_integer X AA B
  o_is_within := st_is_within X AA B
  o_common := st_common X AA B
  o_frac := st_frac X AA B
  o_is_signs := st_is_signs X AA B
  o_is_row := st_is_row X AA B
  o_check_row := st_check_row X AA B
  o_sums_of := st_sums_of X AA B
  o_complement := st_complement X AA B
  o_mirrored := st_mirrored X AA B
  o_pair_of_length := st_pair_of_length X AA B
  o_first_pair := st_first_pair X AA B
  o_total_to := st_total_to X AA B
  o_row_of := st_row_of X AA B
  o_pair_round := st_pair_round X AA B
  o_is_even_round := st_is_even_round X AA B
  o_round_pair := st_round_pair X AA B
  o_least_of := st_least_of X AA B
  o_least_round := st_least_round X AA B
  o_is_even := st_is_even X AA B
  o_law_hand := st_law_hand X AA B
  o_law_draw := st_law_draw X AA B
  o_law_any := st_law_any X AA B
  o_law_same := st_law_same X AA B
  o_law_odd := st_law_odd X AA B
  o_law_round := st_law_round X AA B
  o_law_counts := st_law_counts X AA B
  o_law_first_pair := st_law_first_pair X AA B
  o_law_turn := st_law_turn X AA B
  o_law_drawn_round := st_law_drawn_round X AA B
  o_law_all_rows := st_law_all_rows X AA B
  o_law_are_small_right := st_law_are_small_right X AA B
  o_law_is_row_right := st_law_is_row_right X AA B
  o_law_are_refused := st_law_are_refused X AA B
  o_law := st_law X AA B
theorem all (X : Fx K mg) (B : Tbs K base mg) : ∀ n j, j ≤ n → All P w K mg base j
  | 0, 0, _ => all_zero X
  | _ + 1, 0, _ => all_zero X
  | n + 1, j + 1, h => all_succ X (fun i hi => all X B n i (by omega)) B
end
theorem tbs_of {K : PySem.W.Frag} {base : Heap} {mg : Str → Option Value} (h : ∀ p ∈ tf.map (He.cT K), LamX.TabB base mg p.1 p.2) : Tbs K base mg where
  mk0 := trivial
  tb_law_are_refused := h _ (.head _)
theorem tabs_to (K : PySem.W.Frag) (Q : Addr → Prop) (h : ∀ p ∈ tf.map (He.cT K), Q p.2) : ∀ p ∈ tabs K, Q p.1 := by
  have e : (tabs K).map (·.1) = (tf.map (He.cT K)).map (·.2) := rfl
  intro p hp
  have h2 : p.1 ∈ (tf.map (He.cT K)).map (·.2) := by rw [← e]; exact List.mem_map.mpr ⟨p, hp, rfl⟩
  obtain ⟨q, hq, e2⟩ := List.mem_map.mp h2
  rw [← e2]
  exact h q hq
end HD
open PySem PySem.W PySem.Calls PyProof.Rows
set_option maxRecDepth 100000 in
set_option maxHeartbeats 8000000 in
theorem PySem.Challenge.cw_evenduties_k14_whole_even_rounds_holds : PySem.Challenge.rw_evenduties_k14_whole_even_rounds.Holds := by
  w_on; o_law
  refine HandSHeadRun.head_any (r := OpenLaw.row PySem.Challenge.rw_evenduties_k14_whole_even_rounds) (q := view (OpenLaw.row PySem.Challenge.rw_evenduties_k14_whole_even_rounds).prog [50]) (H := HD.hk) (ob := HD.ob) (M := 4000) (loose := HD.loose) (d := HandSHeadRun.topDef (OpenLaw.row PySem.Challenge.rw_evenduties_k14_whole_even_rounds).prog 50) (kwd := []) HD.ob_eq
    (by kernel_rfl) (fun s => by kernel_rfl) HD.run (by kernel_rfl) (by kernel_rfl) (by kernel_rfl) (by rfl) (by first | assumption | decide +kernel) (by decide +kernel) ⟨rfl, rfl, rfl, rfl, rfl, by decide +kernel⟩ ?hw ?hc
  case hw => w_witness2
  case hc =>
    refine LamX.walk_ofTsE (l := PySem.Challenge.rw_evenduties_k14_whole_even_rounds) (n := 63) (k := 100) (x := "script") (CX := fun _ => Q.CXe (PySem.Challenge.rw_evenduties_k14_whole_even_rounds).prog) rfl (by decide) (by kernel_rfl) ⟨rfl, by decide, by decide⟩ ?F (fun _ => Q.CXe.none)
    intro w mg fa h Y G hmg0
    obtain ⟨K, KX, sx⟩ := Y
    have hmg : mg ("law" : PySem.Str) = some (.ref fa) := by
      have e : (HandSHeadRun.topDef (OpenLaw.row PySem.Challenge.rw_evenduties_k14_whole_even_rounds).prog 50).name = ("law" : PySem.Str) := by kernel_rfl
      rw [← e]
      exact hmg0
    have X := HD.facts KX G sx.t.d sx.more
    have ea : He.ga K "law" = fa := by
      have z := X.g_law.symm.trans hmg
      cases z
      rfl
    subst ea
    obtain ⟨fd, hb, Fd⟩ := HD.bn_law X
    have b1 := L2.FunD.bindsA (ps := ["script"]) Fd fun _ _ _ _ _ _ us hl => match us, hl with | [_], _ => rfl
    refine ⟨K, KX, fd, HD.tf.map (He.cT K), Q.spOf K (HD.T K) Q.Lib 100 278, ?_, ?_, ?_, fun s v => b1 s [v] rfl, fun H a ns hl _ hT hS => Q.start_ok hS (Q.law_k14 ns hl) (Q.tabs_of fun p hp => ?_), fun base hK hG hB => Q.FnOk.toEx (HD.ok_law Fd X (fun j hj => HD.all X ?_ 99 j hj) ?_)⟩
    · intro p hp
      obtain ⟨q, hq, rfl⟩ := List.mem_map.mp hp
      exact sx.empty q hq
    · intro p hp
      obtain ⟨q, hq, rfl⟩ := List.mem_map.mp hp
      exact sx.out q hq
    · intro p hp
      obtain ⟨q, hq, rfl⟩ := List.mem_map.mp hp
      exact PySem.W.codeHd_of_K KX (sx.hd q hq)
    · exact HD.tabs_to K (fun a => H a = some (.tbl #[])) hT p hp
    all_goals exact HD.tbs_of hB
