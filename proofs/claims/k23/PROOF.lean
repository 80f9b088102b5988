import PyProof.Rows.All
import Wide.All
import OpenK.AllK
import Wide.FinOn
import HandS.ForMost
import HandS.ForExc
import HandS.Wide
import HandS.Lambda
import HandS.IsInst
import HandS.TupAny
import HandS.TupMul
import PyProof.ListStr
import PyProof.TupleOfStr
import PyProof.StrOps2
import HandS.Zip
import HandS.Walk
import HandS.Defaults
import HandS.Style
import KE.GoesMore
import KE.GoesEnum
import HandS.TryMany
import HandS.ExcOwn
import HandS.SortInts
import HandS.RaiseMore
import HandS.Conv
import HandS.Nested
import KE.KRevSl
import HandS.ExcIs
import HandS.ExcField
import KE.KExcIs
import HandS.ExcInit
import KE.DataMinMax
import HandS.Replace
import HandS.Head0
import HandS.Head1
import HandS.Head2
import HandS.HeadEnd
import HandS.HeadHook1
import HandS.HeadHook2
import HandS.HeadHook3
import HandS.HeadHook4
import HandS.HeadWalk
import HandS.NestedK
import HandS.EndTab
import PyProof.ReprRoads
import PyProof.ReprDict
import HandS.Dict
import PyProof.EqKinds
import PyProof.FactsAll.dict_1
import PyProof.FactsAll.subtypes
import HandS.SetBool
import HandS.Strs
import PyProof.Rows.SortShellAny
import HandS.WordsDict
import PySem.Challenge.RW_evenduties_k23_whole_marks_and_arcs
set_option Elab.async false
set_option linter.all false
set_option maxRecDepth 100000
set_option maxHeartbeats 4000000
namespace Q
open PySem L2
inductive D where
  | non | bl (b : Bool) | int (i : Int) | str (x : Str)
  | tup (xs : List D) | lst (xs : List D)
  | ins (C : Nat) (fs : List (Str × D))
  | dct (kvs : List (Key × D))
  | odc
  | lam
  | ptr (k : Nat) | obj (k : Nat) | src (ns : List Int) | fn (id : Nat)
  | exc (c : Nat) (args : List D)
inductive Lv where
  | ins (C : Nat) (fs : List (Str × D))
  | dct (kvs : List (Key × D))
  | dctT (kvs : List (List Key × D))
structure Store where
  L : List (Option (List D))
  O : List Lv
def Store.get (S : Store) (k : Nat) : Option (List D) := match S.L[k]? with
  | some (some xs) => some xs
  | _ => none
def Store.put (S : Store) (k : Nat) (xs : List D) : Store := ⟨S.L.set k (some xs), S.O⟩
def Store.del (S : Store) (k : Nat) : Store := ⟨S.L.set k none, S.O⟩
def Store.new (S : Store) (xs : List D) : Store := ⟨S.L ++ [some xs], S.O⟩
def Store.cut (S : Store) (n : Nat) : Store := ⟨S.L.take n, S.O⟩
def Store.newO (S : Store) (v : Lv) : Store := ⟨S.L, S.O ++ [v]⟩
def Store.putO (S : Store) (k : Nat) (v : Lv) : Store := ⟨S.L, S.O.set k v⟩
def Store.cutO (S : Store) (n : Nat) : Store := ⟨S.L, S.O.take n⟩
abbrev Sl := List (Option D)
structure Ex where
  cls : Nat
  args : List D
inductive Res (α : Type) where
  | ok (a : α) (S : Store) | ex (e : Ex) (S : Store) | err
@[inline] def Res.bind {α β : Type} (r : Res α) (k : α → Store → Res β) : Res β := match r with
  | .ok a S => k a S
  | .ex e S => .ex e S
  | .err => .err
inductive Fl where
  | nx (s : Sl) | ret (d : D) | bk (s : Sl) | ct (s : Sl) | ex (e : Ex) (s : Sl)
abbrev RS := Option (Fl × Store)
abbrev TE := Sl → Store → Res D
abbrev TA := Sl → Store → Res (List D)
abbrev TSt := Sl → Store → RS
abbrev CallT := Nat → List D → Store → Res D
mutual
def D.flat : D → Bool
  | .ptr _ => false
  | .tup xs => flats xs
  | .lst xs => flats xs
  | .ins _ fs => flatf fs
  | .dct ks => flatk ks
  | .fn id => id != 0
  | .lam => false
  | .exc _ _ => false
  | .obj _ => false
  | _ => true
def flats : List D → Bool
  | [] => true
  | d :: ds => d.flat && flats ds
def flatf : List (Str × D) → Bool
  | [] => true
  | (_, d) :: ds => d.flat && flatf ds
def flatk : List (Key × D) → Bool
  | [] => true
  | (_, d) :: ds => d.flat && flatk ds
end
mutual
def D.pd : D → Option PyData
  | .non => some .none
  | .bl b => some (.bool b)
  | .int i => some (.int i)
  | .str x => some (.str x)
  | .tup xs => (pds xs).map .tuple
  | .lst xs => (pds xs).map .list
  | _ => none
def pds : List D → Option (List PyData)
  | [] => some []
  | d :: ds => match d.pd, pds ds with
    | some e, some es => some (e :: es)
    | _, _ => none
end
def itemsL (S : Store) : D → Option (List D)
  | .lst xs => some xs
  | .ptr k => S.get k
  | _ => none
def itemsLT (S : Store) : D → Option (List D)
  | .tup xs => some xs
  | d => itemsL S d
def pdT (S : Store) : D → Option PyData
  | .ptr k => match S.get k with
    | some xs => (pds xs).map .list
    | none => none
  | d => d.pd
abbrev Op1 := D → Store → Option (D × Store)
abbrev Op2 := D → D → Store → Option (D × Store)
abbrev OpN := List D → Store → Option (D × Store)
def ofO : Option (D × Store) → Res D
  | some (d, S) => .ok d S
  | none => .err
def eV (i : Nat) : TE := fun s S => match s[i]? with
  | some (some d) => .ok d S
  | _ => .err
def eC (d : D) : TE := fun _ S => .ok d S
def e1 (f : Op1) (a : TE) : TE := fun s S => (a s S).bind fun x S1 => ofO (f x S1)
def e2 (f : Op2) (a b : TE) : TE := fun s S => (a s S).bind fun x S1 => (b s S1).bind fun y S2 => ofO (f x y S2)
def eArgs : List TE → TA
  | [] => fun _ S => .ok [] S
  | a :: as => fun s S => (a s S).bind fun x S1 => (eArgs as s S1).bind fun xs S2 => .ok (x :: xs) S2
def eN (f : OpN) (as : List TE) : TE := fun s S => (eArgs as s S).bind fun xs S1 => ofO (f xs S1)
def eM (chk : D → Store → Bool) (f : OpN) (a : TE) (as : List TE) : TE := fun s S => (a s S).bind fun x S1 => if chk x S1 then (eArgs as s S1).bind fun xs S2 => ofO (f (x :: xs) S2) else .err
def isStrD : D → Store → Bool
  | .str _, _ => true
  | _, _ => false
def isLstD (d : D) (S : Store) : Bool := (itemsL S d).isSome
def eCall (c : CallT) (id : Nat) (as : List TE) : TE := fun s S => (eArgs as s S).bind fun xs S1 => c id xs S1
def asB (d : D) (S : Store) (k : Bool → Store → Res D) : Res D := match d with
  | .bl b => k b S
  | _ => .err
def eAnd (a b : TE) : TE := fun s S => (a s S).bind fun x S1 => asB x S1 fun c S2 => if c then b s S2 else .ok (.bl false) S2
def eOr (a b : TE) : TE := fun s S => (a s S).bind fun x S1 => asB x S1 fun c S2 => if c then .ok (.bl true) S2 else b s S2
def eNot (a : TE) : TE := fun s S => (a s S).bind fun x S1 => asB x S1 fun c S2 => .ok (.bl (!c)) S2
def eIf (t a b : TE) : TE := fun s S => (t s S).bind fun x S1 => asB x S1 fun c S2 => if c then a s S2 else b s S2
def eChain (f g : Op2) (a b c : TE) : TE := fun s S => (a s S).bind fun x S1 => (b s S1).bind fun y S2 => (ofO (f x y S2)).bind fun r S3 => asB r S3 fun k S4 =>
  if k then (c s S4).bind fun z S5 => ofO (g y z S5) else .ok (.bl false) S4
def eTup (as : List TE) : TE := fun s S => (eArgs as s S).bind fun xs S1 => .ok (.tup xs) S1
def eLst (as : List TE) : TE := fun s S => (eArgs as s S).bind fun xs S1 => .ok (.lst xs) S1
def eLstM (as : List TE) : TE := fun s S => (eArgs as s S).bind fun xs S1 => if flats xs then .ok (.ptr S1.L.length) (S1.new xs) else .err
inductive Pat where
  | nm (i : Nat) | tp (ps : List Pat)
mutual
def Pat.slots : Pat → List Nat
  | .nm i => [i]
  | .tp ps => Pat.slotss ps
def Pat.slotss : List Pat → List Nat
  | [] => []
  | p :: ps => p.slots ++ Pat.slotss ps
end
def wipeS (s : Sl) : List Nat → Sl
  | [] => s
  | v :: vs => (wipeS s vs).set v none
mutual
def Pat.put : Pat → D → Sl → Option Sl
  | .nm i, d, s => some (s.set i (some d))
  | .tp ps, .tup ds, s => Pat.puts ps ds s
  | .tp _, _, _ => none
def Pat.puts : List Pat → List D → Sl → Option Sl
  | [], [], s => some s
  | p :: ps, d :: ds, s => match p.put d s with
    | some s1 => Pat.puts ps ds s1
    | none => none
  | _, _, _ => none
end
abbrev Src := Sl → Store → Res (List D)
def sSeq (a : TE) : Src := fun s S => (a s S).bind fun x S1 => match x with
  | .lst xs => .ok xs S1
  | .tup xs => .ok xs S1
  | .str z => .ok (z.cps.toList.map fun c => .str ⟨#[c]⟩) S1
  | _ => .err
def rngOk (i : Int) : Bool := decide (-(2 ^ 62) ≤ i) && decide (i < 2 ^ 62)
def rngL (lo : Int) (n : Nat) : List D := (List.range n).map fun (i : Nat) => .int (lo + i)
def sN (f : List D → Option (List D)) (as : List TE) : Src := fun s S => (eArgs as s S).bind fun xs S1 => match f xs with
  | some ds => .ok ds S1
  | none => .err
def iRng1 : List D → Option (List D)
  | [.int j] => if rngOk j then some (rngL 0 j.toNat) else none
  | _ => none
def iRng2 : List D → Option (List D)
  | [.int i, .int j] => if rngOk i && rngOk j then some (rngL i (j - i).toNat) else none
  | _ => none
def iEnumL : List D → Option (List D)
  | [.lst xs] => some ((List.range xs.length).zipWith (fun i d => .tup [.int (i : Nat), d]) xs)
  | _ => none
def iZipA : List D → Option (List D)
  | [.lst xs, .lst ys] => some (List.zipWith (fun d e => .tup [d, e]) xs ys)
  | [.tup xs, .tup ys] => some (List.zipWith (fun d e => .tup [d, e]) xs ys)
  | _ => none
def chs (z : Str) : List D := z.cps.toList.map fun c => .str ⟨#[c]⟩
def iZipS : List D → Option (List D)
  | [.str x, .str y] => some (List.zipWith (fun d e => .tup [d, e]) (chs x) (chs y))
  | _ => none
def iOr (f g : List D → Option (List D)) : List D → Option (List D) := fun xs => match f xs with
  | some ds => some ds
  | none => g xs
def iZip : List D → Option (List D) := iOr iZipA iZipS
def iEnumS : List D → Option (List D)
  | [.str x] => some (List.zipWith (fun d e => .tup [d, e]) ((List.range x.cps.size).map fun (i : Nat) => .int (i : Nat)) (chs x))
  | _ => none
def iEnum : List D → Option (List D) := iOr iEnumL iEnumS
def lineOk (n : Nat) : Bool := decide (n < sizeLine)
def lcL (p : Pat) (t e : TE) (s : Sl) : List D → List D → Store → Res D
  | [], acc, S => .ok (.lst acc) S
  | d :: ds, acc, S => match p.put d s with
    | none => .err
    | some s1 => match t s1 S with
      | .ok (.bl true) S1 => match e s1 S1 with
        | .ok r S2 => if lineOk acc.length then lcL p t e s ds (acc ++ [r]) S2 else .err
        | _ => .err
      | .ok (.bl false) S1 => lcL p t e s ds acc S1
      | _ => .err
def eLc (vs : List Nat) (p : Pat) (src : Src) (t e : TE) : TE := fun s S => (src s S).bind fun ds S1 => lcL p t e (wipeS s vs) ds [] S1
def onE (r : Res D) (s : Sl) (k : D → Store → RS) : RS := match r with
  | .ok d S => k d S
  | .ex e S => some (.ex e s, S)
  | .err => none
def tNo : TSt := fun _ _ => none
def tPass : TSt := fun s S => some (.nx s, S)
def tBrk : TSt := fun s S => some (.bk s, S)
def tCnt : TSt := fun s S => some (.ct s, S)
def tSeq (a b : TSt) : TSt := fun s S => match a s S with
  | some (.nx s1, S1) => b s1 S1
  | r => r
def tExpr (a : TE) : TSt := fun s S => onE (a s S) s fun _ S1 => some (.nx s, S1)
def tRet (a : TE) : TSt := fun s S => onE (a s S) s fun d S1 => some (.ret d, S1)
def tSet (p : Pat) (a : TE) : TSt := fun s S => onE (a s S) s fun d S1 => match p.put d s with
  | some s1 => some (.nx s1, S1)
  | none => none
def asBS (d : D) (S : Store) (k : Bool → Store → RS) : RS := match d with
  | .bl b => k b S
  | _ => none
def tIf (t : TE) (a b : TSt) : TSt := fun s S => onE (t s S) s fun x S1 => asBS x S1 fun c S2 => if c then a s S2 else b s S2
def setL (o i v : D) (S : Store) : Option Store := match o, i with
  | .ptr k, .int j => match S.get k with
    | some xs => match ixN xs.length j with
      | some n => if v.flat then some (S.put k (xs.set n v)) else none
      | none => none
    | none => none
  | _, _ => none
def tSetIx (o i v : TE) : TSt := fun s S => onE (v s S) s fun x S1 => onE (o s S1) s fun y S2 => onE (i s S2) s fun z S3 => match setL y z x S3 with
  | some S4 => some (.nx s, S4)
  | none => none
def forL (p : Pat) (b : TSt) : List D → TSt
  | [], s, S => some (.nx s, S)
  | d :: ds, s, S => match p.put d s with
    | none => none
    | some s1 => match b s1 S with
      | some (.nx s2, S2) => forL p b ds s2 S2
      | some (.ct s2, S2) => forL p b ds s2 S2
      | some (.bk s2, S2) => some (.nx s2, S2)
      | some (.ret d, S2) => some (.ret d, S2)
      | some (.ex e s2, S2) => some (.ex e s2, S2)
      | none => none
def tFor (p : Pat) (src : Src) (b : TSt) : TSt := fun s S => match src s S with
  | .ok ds S1 => forL p b ds s S1
  | .ex e S1 => some (.ex e s, S1)
  | .err => none
def whL (t : TE) (b : TSt) : Nat → TSt
  | 0, _, _ => none
  | n + 1, s, S => onE (t s S) s fun x S1 => asBS x S1 fun c S2 => if c then match b s S2 with
      | some (.nx s3, S3) => whL t b n s3 S3
      | some (.ct s3, S3) => whL t b n s3 S3
      | some (.bk s3, S3) => some (.nx s3, S3)
      | some (.ret d, S3) => some (.ret d, S3)
      | some (.ex e s3, S3) => some (.ex e s3, S3)
      | none => none
    else some (.nx s, S2)
def whMost : Nat := 2 ^ 60
def tWhile (t : TE) (b : TSt) : TSt := whL t b whMost
def frzS (i : Nat) (s : Sl) (S : Store) : Option (Sl × Store) := match s[i]? with
  | some (some (.ptr k)) => match S.get k with
    | some xs => some (s.set i (some (.lst xs)), S.del k)
    | none => none
  | _ => none
def tFrz (i : Nat) (t : TSt) : TSt := fun s S => match frzS i s S with
  | some (s1, S1) => t s1 S1
  | none => none
structure FnD where
  np : Nat
  ns : Nat
  keep : Bool
  body : CallT → TSt
def leave (keep : Bool) (S : Store) (v : D) (S' : Store) : Res D := if keep then .ok v S' else if v.flat then .ok v (S'.cut S.L.length) else .err
def runFn (d : FnD) (c : CallT) (vs : List D) (S : Store) : Res D :=
  if vs.length = d.np then match d.body c (vs.map some ++ List.replicate (d.ns - d.np) none) S with
    | some (.ret v, S') => leave d.keep S v S'
    | some (.nx _, S') => leave d.keep S .non S'
    | some (.ex e _, S') => if d.keep then .ex e S' else if flats e.args then .ex e (S'.cut S.L.length) else .err
    | _ => .err
  else .err
abbrev Prog := Nat → Option FnD
def callN (P : Prog) : Nat → CallT
  | 0 => fun _ _ _ => .err
  | 1 => fun f vs S => match P f with
    | none => .err
    | some d => runFn d (fun _ _ _ => .err) vs S
  | n + 2 => fun f vs S => match P f with
    | none => if f = 999999 then .ok .non S else if 1000000 ≤ f then callN P n (f - 1000000) vs S else .err
    | some d => runFn d (callN P (n + 1)) vs S
theorem callN_eq {P : Prog} {n id : Nat} {d : FnD} {vs : List D} {S : Store} (h : P id = some d) : callN P (n + 1) id vs S = runFn d (callN P n) vs S := by
  cases n with
  | zero =>
    show (match P id with | none => Res.err | some d => runFn d (fun _ _ _ => .err) vs S) = _
    rw [h]
    rfl
  | succ n =>
    show (match P id with | none => _ | some d => runFn d (callN P (n + 1)) vs S) = _
    rw [h]
theorem callN_low {P : Prog} {n id : Nat} {vs : List D} {S : Store} (h : P (id + 1000000) = none) : callN P (n + 2) (id + 1000000) vs S = callN P n id vs S := by
  show (match P (id + 1000000) with | none => if id + 1000000 = 999999 then Res.ok D.non S else if 1000000 ≤ id + 1000000 then callN P n (id + 1000000 - 1000000) vs S else Res.err | some d => runFn d (callN P (n + 1)) vs S) = _
  rw [h]
  show (if id + 1000000 = 999999 then Res.ok D.non S else if 1000000 ≤ id + 1000000 then callN P n (id + 1000000 - 1000000) vs S else Res.err) = _
  rw [if_neg (by omega), if_pos (by omega), Nat.add_sub_cancel]
def deep (c : CallT) : Bool := match c 999999 [] ⟨[], []⟩ with
  | .ok _ _ => true
  | _ => false
theorem deep_low {P : Prog} {n : Nat} (h : P 999999 = none) : deep (callN P (n + 2)) = true := by
  have e : callN P (n + 2) 999999 [] ⟨[], []⟩ = .ok .non ⟨[], []⟩ := by
    show (match P 999999 with | none => if 999999 = 999999 then Res.ok D.non _ else if 1000000 ≤ 999999 then callN P n (999999 - 1000000) [] _ else Res.err | some d => runFn d (callN P (n + 1)) [] _) = _
    rw [h]
    show (if 999999 = 999999 then Res.ok D.non _ else _) = _
    rw [if_pos rfl]
  unfold deep
  rw [e]
theorem deep_zero {P : Prog} : deep (callN P 0) = false := rfl
theorem deep_one {P : Prog} (h : P 999999 = none) : deep (callN P 1) = false := by
  have e : callN P 1 999999 [] ⟨[], []⟩ = .err := by
    show (match P 999999 with | none => Res.err | some d => _) = _
    rw [h]
  unfold deep
  rw [e]
def oRet (d : D) (S : Store) : Option (D × Store) := some (d, S)
def oAdd : Op2 := fun x y S => match x, y with
  | .int i, .int j => some (.int (i + j), S)
  | .str a, .str b => if a.length + b.length ≤ sizeLine then some (.str (a ++ b), S) else none
  | .lst a, .lst b => if a.length + b.length ≤ sizeLine then some (.lst (a ++ b), S) else none
  | .ptr k, .lst b => match S.get k with
    | some a => if a.length + b.length ≤ sizeLine then some (.lst (a ++ b), S) else none
    | _ => none
  | .tup a, .tup b => if a.length + b.length ≤ sizeLine then some (.tup (a ++ b), S) else none
  | _, _ => none
def oSub : Op2 := fun x y S => match x, y with
  | .int i, .int j => some (.int (i - j), S)
  | _, _ => none
def smallI (i : Int) : Bool := decide (-(2 ^ 64) < i) && decide (i < 2 ^ 64)
def midI (i : Int) : Bool := decide (i.natAbs.log2 < 400000)
def oMulL : Op2 := fun x y S => match x, y with
  | .int i, .int j => if smallI i || smallI j || (midI i && midI j) then some (.int (i * j), S) else none
  | .lst a, .int j => if decide (-(2 ^ 63) ≤ j) && decide (j < 2 ^ 63) && decide (a.length * j.toNat ≤ sizeLine) then some (.lst ((List.replicate j.toNat a).flatten), S) else none
  | .str a, .int j => if decide (0 ≤ j) && decide (j ≤ 100000) && decide (a.length ≤ 10000) && decide (a.length * j.toNat ≤ sizeLine) then some (.str ⟨((List.replicate j.toNat a.cps.toList).flatten).toArray⟩, S) else none
  | .tup a, .int j => if decide (a ≠ [] ∧ 2 ≤ j ∧ j ≤ 1000 ∧ a.length ≤ 1000) then some (.tup ((List.replicate j.toNat a).flatten), S) else none
  | _, _ => none
def divOk (j : Int) : Bool := decide (j ≠ 0) && decide (j.natAbs < 1073741824) || decide (0 < j) && decide (j.natAbs.log2 < 9000)
def oDiv : Op2 := fun x y S => match x, y with
  | .int i, .int j => if divOk j then some (.int (i.fdiv j), S) else none
  | _, _ => none
def oMod : Op2 := fun x y S => match x, y with
  | .int i, .int j => if j = 0 then none else some (.int (i.fmod j), S)
  | _, _ => none
def oPow : Op2 := fun x y S => match x, y with
  | .int i, .int j => if decide (0 ≤ j) && decide (j ≤ 1000000) && decide (i.natAbs < 2 ^ 64) then some (.int (i ^ j.toNat), S) else none
  | _, _ => none
def oNeg : Op1 := fun x S => match x with
  | .int i => some (.int (-i), S)
  | _ => none
def oCmp (f : Int → Int → Bool) : Op2 := fun x y S => match x, y with
  | .int i, .int j => some (.bl (f i j), S)
  | _, _ => none
def oLt : Op2 := oCmp fun i j => decide (i < j)
def oLe : Op2 := oCmp fun i j => decide (i ≤ j)
def oGt : Op2 := oCmp fun i j => decide (j < i)
def oGe : Op2 := oCmp fun i j => decide (j ≤ i)
def eqD (x y : D) (S : Store) : Option Bool := match x, y with
  | .int i, .int j => some (decide (i = j))
  | .str a, .str b => some (decide (a = b))
  | .bl a, .bl b => some (decide (a = b))
  | x, y => match pdT S x, pdT S y with
    | some d, some e => if SeqAt.shaped d && SeqAt.shaped e then some (PyData.eqv d e) else none
    | _, _ => none
def oEq : Op2 := fun x y S => match eqD x y S with
  | some b => some (.bl b, S)
  | none => none
def oNe : Op2 := fun x y S => match eqD x y S with
  | some b => some (.bl (!b), S)
  | none => none
def isN : D → Bool
  | .non => true
  | _ => false
def oIsN : Op1 := fun x S => some (.bl (isN x), S)
def oNotN : Op1 := fun x S => some (.bl (!isN x), S)
def oIx : Op2 := fun x y S => match x, y with
  | .str z, .int i => if z.length ≤ sizeLine then match atI z.cps.toList i with
      | some c => some (.str ⟨#[c]⟩, S)
      | none => none
    else none
  | x, .int i => match itemsLT S x with
    | some xs => match atI xs i with
      | some d => some (d, S)
      | none => none
    | none => none
  | _, _ => none
def oAbs : OpN := fun xs S => match xs with
  | [.int i] => some (.int (if i < 0 then -i else i), S)
  | _ => none
def oInt : OpN := fun xs S => match xs with
  | [.int i] => some (.int i, S)
  | [.bl b] => some (.int (if b then 1 else 0), S)
  | [.str z] => match PySem.intText? z with
    | some n => if z.length ≤ 640 then some (.int n, S) else none
    | none => none
  | _ => none
def oLen : OpN := fun xs S => match xs with
  | [.str z] => if z.length ≤ sizeLine then some (.int z.length, S) else none
  | [d] => match itemsLT S d with
    | some ds => some (.int ds.length, S)
    | none => none
  | _ => none
def oMax2 : OpN := fun xs S => match xs with
  | [.int i, .int j] => some (.int (if j > i then j else i), S)
  | _ => none
def oMin2 : OpN := fun xs S => match xs with
  | [.int i, .int j] => some (.int (if j < i then j else i), S)
  | _ => none
def intsOf : List D → Option (List Int)
  | [] => some []
  | .int i :: ds => (intsOf ds).map (i :: ·)
  | _ :: _ => none
def blsOf : List D → Option (List Bool)
  | [] => some []
  | .bl b :: ds => (blsOf ds).map (b :: ·)
  | _ :: _ => none
def strsOf : List D → Option (List Str)
  | [] => some []
  | .str z :: ds => (strsOf ds).map (z :: ·)
  | _ :: _ => none
def oAll : OpN := fun xs S => match xs with
  | [.lst ds] => match blsOf ds with
    | some bs => some (.bl (bs.all id), S)
    | none => none
  | _ => none
def oTupleOf : OpN := fun xs S => match xs with
  | [.str z] => if z.length ≤ sizeLine then some (.tup (z.cps.toList.map fun c => .str ⟨#[c]⟩), S) else none
  | [d] => match itemsLT S d with
    | some ds => some (.tup ds, S)
    | none => none
  | _ => none
def oListOf : OpN := fun xs S => match xs with
  | [.str z] => if z.length ≤ sizeLine then some (.lst (z.cps.toList.map fun c => .str ⟨#[c]⟩), S) else none
  | [d] => match itemsLT S d with
    | some ds => some (.lst ds, S)
    | none => none
  | _ => none
def oJoin : OpN := fun xs S => match xs with
  | [.str sep, .lst ds] => match strsOf ds with
    | some ss => if (ss.map (·.length)).sum + ss.length * sep.length ≤ 16777216 then some (.str (Txt.join sep ss), S) else none
    | none => none
  | _ => none
def oAppend : OpN := fun xs S => match xs with
  | [.ptr k, d] => match S.get k with
    | some ds => if lineOk ds.length && d.flat then some (.non, S.put k (ds ++ [d])) else none
    | none => none
  | _ => none
def oPop : OpN := fun xs S => match xs with
  | [.ptr k] => match S.get k with
    | some ds => match ds[ds.length - 1]? with
      | some d => some (d, S.put k ds.dropLast)
      | none => none
    | none => none
  | _ => none
inductive Ty where
  | int | bool | str | tuple | list | dict
def Ty.of (S : Store) : D → Option (List Ty)
  | .non => some []
  | .bl _ => some [.bool, .int]
  | .int _ => some [.int]
  | .str _ => some [.str]
  | .tup _ => some [.tuple]
  | .lst _ => some [.list]
  | .src _ => some [.list]
  | .dct _ => some [.dict]
  | .ptr k => match S.get k with
    | some _ => some [.list]
    | none => none
  | _ => none
def Ty.eqb : Ty → Ty → Bool
  | .int, .int => true
  | .bool, .bool => true
  | .str, .str => true
  | .tuple, .tuple => true
  | .list, .list => true
  | .dict, .dict => true
  | _, _ => false
def oIsi (ts : List Ty) : Op1 := fun x S => match Ty.of S x with
  | some us => some (.bl (ts.any fun t => us.any (Ty.eqb t)), S)
  | none => match x, ts with
    | .odc, [t] => some (.bl (Ty.eqb t .dict), S)
    | _, _ => none
def cutD {α : Type} (xs : List α) (lo hi : Option Int) : List α := (xs.drop (HT.sIx xs.length 0 lo)).take (HT.sIx xs.length xs.length hi - HT.sIx xs.length 0 lo)
def oCut (x : D) (lo hi : Option Int) (S : Store) : Option (D × Store) := match x with
  | .lst xs => some (.lst (cutD xs lo hi), S)
  | .tup xs => some (.tup (cutD xs lo hi), S)
  | .src ns => some (.lst ((cutD ns lo hi).map .int), S)
  | .str z => if z.length ≤ sizeLine then some (.str ⟨(cutD z.cps.toList lo hi).toArray⟩, S) else none
  | _ => none
def partK (k : Option Int → Store → Res D) (x : D) (S : Store) : Res D := match x with
  | .int i => k (some i) S
  | _ => .err
def ePart (a : TE) (s : Sl) (S : Store) (k : Option Int → Store → Res D) : Res D := (a s S).bind (partK k)
def eCutL (a lo : TE) : TE := fun s S => (a s S).bind fun x S1 => ePart lo s S1 fun l S2 => ofO (oCut x l none S2)
def eCutU (a hi : TE) : TE := fun s S => (a s S).bind fun x S1 => ePart hi s S1 fun h S2 => ofO (oCut x none h S2)
def eCutLU (a lo hi : TE) : TE := fun s S => (a s S).bind fun x S1 => ePart lo s S1 fun l S2 => ePart hi s S2 fun h S3 => ofO (oCut x l h S3)
def isSub (c d : Nat) : Bool := c == d || d == 0
def tRaise (c : Nat) : TSt := fun s S => some (.ex ⟨c, []⟩ s, S)
def tRaise1 (dp : Bool) (c : Nat) (ta : TE) : TSt := fun s S => if dp then match ta s S with
  | .ok d S1 => if d.flat then some (.ex ⟨c, [d]⟩ s, S1) else none
  | _ => none
  else none
def hFind (c : Nat) : List (Nat × TSt) → Option TSt
  | [] => none
  | (d, t) :: r => if isSub c d then some t else hFind c r
def noEx (r : RS) : RS := match r with
  | some (.ex _ _, _) => none
  | r => r
def tTryF (n : Nat) (cs : List Nat) (b : TSt) (hs : List (Nat × TSt)) : TSt := fun s S => match b s S with
  | some (.ex e _, S1) => if e.cls ∈ cs then match hFind e.cls hs with
      | some t => noEx (t (List.replicate n none) S1)
      | none => none
    else none
  | r => r
def tTryS (cs : List Nat) (b : TSt) (hs : List (Nat × TSt)) : TSt := fun s S => match b s S with
  | some (.ex e s1, S1) => if e.cls ∈ cs then match hFind e.cls hs with
      | some t => noEx (t s1 S1)
      | none => none
    else none
  | r => r
def oFld (cs : List Nat) : Op1 := fun x S => match x with
  | .exc k [w] => if k ∈ cs then some (w, S) else none
  | _ => none
def oIsE (cs : List Nat) (c : Nat) : Op1 := fun x S => match x with
  | .exc k as => if as.length > 1 then none else if k ∈ cs then some (.bl (if c = 1000 then true else isSub k c), S) else none
  | _ => none
def flatSl : Sl → Bool
  | [] => true
  | none :: s => flatSl s
  | some d :: s => d.flat && flatSl s
def tTryAs (n i : Nat) (cs : List Nat) (b : TSt) (c : Nat) (su : TSt) : TSt := fun s S => match b s S with
  | some (.ex e _, S1) => if e.cls ∈ cs ∧ isSub e.cls c = true ∧ flats e.args = true then match su ((List.replicate n none).set i (some (.exc e.cls e.args))) S1 with
      | some (.ret d, S2) => if d.flat then some (.ret d, S2) else none
      | some (.nx s2, S2) => if flatSl (s2.set i none) then some (.nx (s2.set i none), S2) else none
      | _ => none
    else none
  | r => r
def flatR (r : Res D) : Res D := match r with
  | .ok d S => if d.flat then .ok d S else .err
  | .ex e S => if flats e.args then .ex e S else .err
  | .err => .err
def eAct (i : Nat) (th : Store → Res D) : TE := fun s S => match s[i]? with
  | some (some (.fn 0)) => th S
  | _ => .err
def eTold (dp : Bool) (n : Nat) (b : (Store → Res D) → TSt) (te : TE) : TE := fun s S =>
  if dp then match b (fun S1 => flatR (te s S1)) (some (.fn 0) :: List.replicate n none) S with
  | some (.ret d, S') => if d.flat then .ok d S' else .err
  | some (.nx _, S') => .ok .non S'
  | _ => .err
  else .err
def srt (ns : List Int) : List Int := ns.mergeSort fun a b => decide (a ≤ b)
def srtS (xs : List Str) : List Str := xs.mergeSort fun a b => decide (a.cps.toList ≤ b.cps.toList)
def sortD (ds : List D) : Option D := match intsOf ds with
  | some ns => some (.lst ((srt ns).map .int))
  | none => match strsOf ds with
    | some ss => if ss.length < 64 then some (.lst ((srtS ss).map .str)) else none
    | none => none
def oSortedI : OpN := fun xs S => match xs with
  | [d] => match itemsL S d with
    | some ds => match sortD ds with
      | some e => some (e, S)
      | none => none
    | none => none
  | _ => none
def flatD : D → Bool
  | .non => true
  | .bl _ => true
  | .int _ => true
  | .str _ => true
  | _ => false
def eqF : D → D → Bool
  | .non, .non => true
  | .bl a, .bl b => a == b
  | .bl a, .int b => (if a then 1 else 0) == b
  | .int a, .bl b => a == (if b then 1 else 0)
  | .int a, .int b => a == b
  | .str a, .str b => a == b
  | _, _ => false
def signOf : D → Option Nat
  | .str z => match z.cps.toList with
    | [c] => some c
    | _ => none
  | _ => none
def inD (S : Store) (x y : D) : Option Bool := match y with
  | .str z => match signOf x with
    | some c => some (decide (c ∈ z.cps.toList))
    | none => none
  | y => match itemsLT S y with
    | some xs => if flatD x && xs.all flatD then some (xs.any fun z => eqF z x) else none
    | none => none
def eqS : D → D → Option Bool
  | .int i, .int j => some (decide (i = j))
  | .str a, .str b => some (decide (a = b))
  | .bl a, .bl b => some (decide (a = b))
  | _, _ => none
def oEqS : Op2 := fun x y S => match eqS x y with
  | some b => some (.bl b, S)
  | none => none
def oNeS : Op2 := fun x y S => match eqS x y with
  | some b => some (.bl (!b), S)
  | none => none
def minS (x : Str) (xs : List Str) : Str := xs.foldl (fun a y => if decide (y.cps.toList < a.cps.toList) = true then y else a) x
def oMinS : OpN := fun xs S => match xs with
  | [d] => match itemsL S d with
    | some ds => match strsOf ds with
      | some (x :: xs) => some (.str (minS x xs), S)
      | _ => none
    | none => none
  | _ => none
def oSIndex : OpN := fun xs S => match xs with
  | [.str a, .str b] => match Builtin.Str.occurrences a b 0 a.length 1 with
    | i :: _ => some (.int (i : Nat), S)
    | [] => none
  | _ => none
def oCountL : OpN := fun xs S => match xs with
  | [l, d] => match itemsL S l with
    | some ds => if flatD d && ds.all flatD then some (.int (ds.countP fun z => eqF z d : Nat), S) else none
    | none => none
  | _ => none
def oIndexL : OpN := fun xs S => match xs with
  | [l, d] => match itemsL S l with
    | some ds => if flatD d && ds.all flatD then match ds.findIdx? fun z => eqF z d with
      | some j => some (.int j, S)
      | none => none
      else none
    | none => none
  | _ => none
def oIn : Op2 := fun x y S => match inD S x y with
  | some b => some (.bl b, S)
  | none => none
def oNin : Op2 := fun x y S => match inD S x y with
  | some b => some (.bl (!b), S)
  | none => none
def oRev : Op1 := fun x S => match x with
  | .str z => if z.length ≤ sizeLine then some (.str ⟨z.cps.toList.reverse.toArray⟩, S) else none
  | x => match itemsL S x with
    | some xs => some (.lst xs.reverse, S)
    | none => none
def oAddM : Op2 := fun x y S => match oAdd x y S with
  | some (.lst zs, _) => if flats zs then some (.ptr S.L.length, S.new zs) else none
  | _ => none
def oLstRg : Op2 := fun x y S => match x, y with
  | .int i, .int j => if decide (-1000000000 ≤ i) && decide (i < 1000000000) && decide (-1000000000 ≤ j) && decide (j < 1000000000) && decide ((j - i).toNat ≤ 16777216) then some (.lst (rngL i (j - i).toNat), S) else none
  | _, _ => none
def oIsB (b : Bool) : Op1 := fun x S => match x with
  | .bl a => some (.bl (decide (a = b)), S)
  | _ => none
def intsL (S : Store) (d : D) : Option (List Int) := match itemsL S d with
  | some ds => intsOf ds
  | none => none
def maxI : List Int → Int
  | [] => 0
  | [x] => x
  | x :: xs => max x (maxI xs)
def minI : List Int → Int
  | [] => 0
  | [x] => x
  | x :: xs => min x (minI xs)
def oMaxL : OpN := fun xs S => match xs with
  | [d] => match intsL S d with
    | some ns => if 0 < ns.length then some (.int (maxI ns), S) else none
    | none => none
  | _ => none
def oMinL : OpN := fun xs S => match xs with
  | [d] => match intsL S d with
    | some ns => if 0 < ns.length then some (.int (minI ns), S) else none
    | none => none
  | _ => none
def oSum : OpN := fun xs S => match xs with
  | [d] => match intsL S d with
    | some ns => some (.int ns.sum, S)
    | none => none
  | _ => none
def oAny : OpN := fun xs S => match xs with
  | [.lst ds] => match blsOf ds with
    | some bs => some (.bl (bs.any id), S)
    | none => none
  | _ => none
def oCount : OpN := fun xs S => match xs with
  | [.str a, .str b] => some (.int (Txt.count a b), S)
  | _ => none
def oStrOf : OpN := fun xs S => match xs with
  | [.non] => some (.str "None", S)
  | [.int i] => if i.natAbs.log2 < 1920 then some (.str (toString i), S) else none
  | [.str z] => some (.str z, S)
  | _ => none
def oExtend : OpN := fun xs S => match xs with
  | [.ptr k, .lst es] => match S.get k with
    | some ds => if decide (ds.length + es.length ≤ sizeLine) && flats es then some (.non, S.put k (ds ++ es)) else none
    | none => none
  | _ => none
def keyD : D → Option Key
  | .int i => some (.inl i)
  | .str x => some (.inr x)
  | _ => none
def pairsD : List D → Option (List (Key × D))
  | [] => some []
  | k :: v :: r => match keyD k, pairsD r with
    | some k', some r' => some ((k', v) :: r')
    | _, _ => none
  | _ => none
def nodupK : List Key → Bool
  | [] => true
  | k :: ks => !(ks.any fun j => decide (j = k)) && nodupK ks
def eDct (as : List TE) : TE := fun s S => (eArgs as s S).bind fun xs S1 => match pairsD xs with
  | some kvs => if nodupK (kvs.map (·.1)) then .ok (.dct kvs) S1 else .err
  | none => .err
def keysD : List D → Option (List Key)
  | [] => some []
  | d :: ds => match keyD d, keysD ds with
    | some k, some ks => some (k :: ks)
    | _, _ => none
def keysT : D → Option (List Key)
  | .tup ds => keysD ds
  | _ => none
def eCallV (dp : Bool) (c : CallT) (i gid : Nat) (lt : TE) (n : Nat) (ta : TE) : TE := fun s S => if dp then match s[i]? with
  | some (some (.fn id)) => if id = gid then (eArgs [ta] s S).bind fun xs S1 => c gid xs S1 else .err
  | some (some .lam) => (eArgs [ta] s S).bind fun xs S1 => match xs with
    | [x] => lt (some x :: List.replicate n none) S1
    | _ => .err
  | _ => .err
  else .err
def eDctT (as : List TE) : TE := fun s S => (eArgs as s S).bind fun xs S1 => match xs with
  | [x, _] => match keysT x with
    | some _ => .ok .odc S1
    | none => .err
  | _ => .err
def oRevA : Op1 := fun x S => match x with
  | .tup ds => some (.tup ds.reverse, S)
  | x => oRev x S
def gIx (o i : TE) (d : D) : TSt := fun s S => onE (o s S) s fun y S2 => onE (i s S2) s fun z S3 => match setL y z d S3 with
  | some S4 => some (.nx s, S4)
  | none => none
def tSw2 (o1 i1 o2 i2 v1 v2 : TE) : TSt := fun s S => onE (eTup [v1, v2] s S) s fun t S1 => match t with
  | .tup [x, y] => tSeq (gIx o1 i1 x) (gIx o2 i2 y) s S1
  | _ => none
def oLstOfM : OpN := fun xs S => match xs with
  | [d] => match itemsLT S d with
    | some ds => if flats ds then some (.ptr S.L.length, S.new ds) else none
    | none => none
  | _ => none
def keyP : Key → PyData
  | .inl i => .int i
  | .inr x => .str x
mutual
def D.rd : D → Option PyData
  | .non => some .none
  | .bl b => some (.bool b)
  | .int i => some (.int i)
  | .str x => some (.str x)
  | .tup xs => (rds xs).map .tuple
  | .lst xs => (rds xs).map .list
  | .dct kvs => (rdk kvs).map .dict
  | _ => none
def rds : List D → Option (List PyData)
  | [] => some []
  | d :: ds => match d.rd, rds ds with
    | some e, some es => some (e :: es)
    | _, _ => none
def rdk : List (Key × D) → Option (List (PyData × PyData))
  | [] => some []
  | (k, d) :: ds => match d.rd, rdk ds with
    | some e, some es => some ((keyP k, e) :: es)
    | _, _ => none
end
def oRepr : OpN := fun xs S => match xs with
  | [x] => match x.rd with
    | some p => if p.showable && decide (p.shown.length ≤ sizeLine) && decide (p.depth ≤ 150) then some (.str p.shown, S) else none
    | none => none
  | _ => none
def oEqK : Op2 := fun x y S => match x, y with
  | .tup _, .int _ => some (.bl false, S)
  | .lst _, .int _ => some (.bl false, S)
  | .dct _, .int _ => some (.bl false, S)
  | x, y => oEq x y S
def insU (k : Int) : List Int → List Int
  | [] => [k]
  | x :: xs => if k < x then k :: x :: xs else if k = x then x :: xs else x :: insU k xs
def srtU : List Int → List Int
  | [] => []
  | k :: ks => insU k (srtU ks)
def scL (p : Pat) (t e : TE) (s : Sl) : List D → List Int → Store → Res (List Int)
  | [], acc, S => .ok acc S
  | d :: ds, acc, S => match p.put d s with
    | none => .err
    | some s1 => match t s1 S with
      | .ok (.bl true) S1 => match e s1 S1 with
        | .ok (.int k) S2 => if acc.length + 2 < scanBound then scL p t e s ds (k :: acc) S2 else .err
        | _ => .err
      | .ok (.bl false) S1 => scL p t e s ds acc S1
      | _ => .err
def eSrtS (vs : List Nat) (p : Pat) (src : Src) (t e : TE) : TE := fun s S => (src s S).bind fun ds S1 => (scL p t e (wipeS s vs) ds [] S1).bind fun ns S2 => .ok (.lst ((srtU ns).map .int)) S2
def putG {κ β : Type} [DecidableEq κ] (kvs : List (κ × β)) (k : κ) (v : β) : List (κ × β) :=
  if (kvs.any fun kv => decide (kv.1 = k)) = true then kvs.map (fun kv => if kv.1 = k then (kv.1, v) else kv) else kvs ++ [(k, v)]
def mergeG {κ β : Type} [DecidableEq κ] (kvs more : List (κ × β)) : List (κ × β) := more.foldl (fun acc kv => putG acc kv.1 kv.2) kvs
def keyV : Key → D
  | .inl i => .int i
  | .inr x => .str x
def eDctM (as : List TE) : TE := fun s S => (eArgs as s S).bind fun xs S1 => match pairsD xs with
  | some kvs => if nodupK (kvs.map (·.1)) && flatk kvs then .ok (.obj S1.O.length) (S1.newO (.dct kvs)) else .err
  | none => .err
def dkvs (S : Store) : D → Option (List (Key × D))
  | .obj k => match S.O[k]? with
    | some (.dct kvs) => some kvs
    | _ => none
  | _ => none
def putO (o i v : D) (S : Store) : Option Store := match o with
  | .obj k => match S.O[k]? with
    | some (.dct kvs) => match keyD i with
      | some j => if decide (kvs.length < sizeLine) && v.flat then some (S.putO k (.dct (putG kvs j v))) else none
      | none => none
    | _ => none
  | _ => none
def tPutK (o i v : TE) : TSt := fun s S => onE (v s S) s fun x S1 => onE (o s S1) s fun y S2 => onE (i s S2) s fun z S3 => match putO y z x S3 with
  | some S4 => some (.nx s, S4)
  | none => none
def oLenO : OpN := fun xs S => match xs with
  | [d] => match dkvs S d with
    | some kvs => some (.int kvs.length, S)
    | none => none
  | _ => none
def oLstO : OpN := fun xs S => match xs with
  | [d] => match dkvs S d with
    | some kvs => some (.lst (kvs.map fun kv => keyV kv.1), S)
    | none => none
  | _ => none
def prsD : List D → Option (List (Key × D))
  | [] => some []
  | .tup [k, v] :: r => match keyD k, prsD r with
    | some k', some r' => some ((k', v) :: r')
    | _, _ => none
  | _ => none
def oLstPrs : OpN := fun xs S => match xs with
  | [d] => match itemsL S d with
    | some ds => match prsD ds with
      | some kvs => some (.lst ((mergeG [] kvs).map fun kv => keyV kv.1), S)
      | none => none
    | none => none
  | _ => none
def Lv.still : Lv → Bool
  | .ins _ fs => flatf fs
  | _ => true
def tLoc (b : TSt) : TSt := fun s S => match b s S with
  | some (.ret d, S1) => if d.flat && (S1.O.take S.O.length).all Lv.still then some (.ret d, S1.cutO S.O.length) else none
  | some (.ex e s1, S1) => if flats e.args && (S1.O.take S.O.length).all Lv.still then some (.ex e (List.replicate s1.length none), S1.cutO S.O.length) else none
  | _ => none
end Q
set_option maxHeartbeats 1000000
namespace Q
open PySem L2
structure Wd where
  F : Hp
  al : Nat → Addr
  n : Nat
  ao : Nat → Addr
  m : Nat
structure LamI where
  q : Str
  ps : Arguments
  b : Expr
  sc : Scope
def LamO (I : LamI) (f c : Addr) : HO := .ext fun h => ∃ (od : Option Addr) (sl : Array (Option Value)) (pm ct : Value), h.get? f = some (⟨.type "function", od, .func (PySem.W.kla_fn "<lambda>" I.q I.ps I.b I.sc [] pm (.ref c) ct), sl⟩ : Obj)
structure Tb where
  cl : Nat → Addr
  fa : Nat → Addr
  tabs : List (Addr × Str)
  pin : List (Wd × Addr × Str)
  /-- the caught error: where it is, its class, its dict, its field -/
  ea : Addr := 0
  ec : Value := .none
  ed : Option Addr := none
  ef : Str := ""
  /-- the law's lambda that is held as a value -/
  lam : Option LamI := none
def isDc (a : Addr) (h : Heap) : Prop := ∃ o es n, h.get? a = some o ∧ o.cls = .type "dict" ∧ o.data = .dict es n
mutual
def Rp (K : PySem.W.Frag) (T : Tb) (ω : Wd) : D → V → Prop
  | .non, v => v = .non
  | .bl b, v => v = .bl b
  | .int i, v => v = .int i
  | .str x, v => v = .str x
  | .tup ds, v => ∃ a vs, v = .ref a ∧ SqT K ω.F a vs ∧ Rps K T ω ds vs
  | .lst ds, v => ∃ a vs, v = .ref a ∧ ω.F a = some (.lst vs) ∧ Rps K T ω ds vs
  | .ins C fs, v => ∃ a dx gs, v = .ref a ∧ ω.F a = some (.ins (T.cl C) dx gs) ∧ Rpf K T ω fs gs
  | .dct kvs, v => ∃ a ws, v = .ref a ∧ ω.F a = some (.dK ws) ∧ Rpk K T ω kvs ws
  | .odc, v => ∃ a, v = .ref a ∧ ω.F a = some (.ext (isDc a))
  | .lam, v => ∃ f, v = .ref f ∧ ∃ I c, T.lam = some I ∧ ω.F f = some (LamO I f c)
  | .ptr k, v => k < ω.n ∧ v = .ref (ω.al k)
  | .obj k, v => k < ω.m ∧ v = .ref (ω.ao k)
  | .src ns, v => ∃ a, v = .ref a ∧ SqL K ω.F a (ns.map V.int)
  | .fn id, v => v = .ref (T.fa id)
  | .exc c args, v => v = .ref T.ea ∧ T.ec = .ref (T.cl c) ∧ ∃ ws, Rps K T ω args ws ∧ (ws = [] → T.ed = none) ∧ ∀ w, ws = [w] → ∃ d, T.ed = some d ∧ ω.F d = some (.xd [(T.ef, w)])
def Rps (K : PySem.W.Frag) (T : Tb) (ω : Wd) : List D → List V → Prop
  | [], vs => vs = []
  | d :: ds, vs => ∃ v ws, vs = v :: ws ∧ Rp K T ω d v ∧ Rps K T ω ds ws
def Rpf (K : PySem.W.Frag) (T : Tb) (ω : Wd) : List (Str × D) → List (Str × V) → Prop
  | [], gs => gs = []
  | (f, d) :: fs, gs => ∃ v hs, gs = (f, v) :: hs ∧ Rp K T ω d v ∧ Rpf K T ω fs hs
def Rpk (K : PySem.W.Frag) (T : Tb) (ω : Wd) : List (Key × D) → List (Key × V) → Prop
  | [], gs => gs = []
  | (f, d) :: fs, gs => ∃ v hs, gs = (f, v) :: hs ∧ Rp K T ω d v ∧ Rpk K T ω fs hs
end
def LamCs (T : Tb) (F H : Hp) : Prop := ∀ I, T.lam = some I → ∀ f, (∃ c, F f = some (LamO I f c)) → ∃ c, F f = some (LamO I f c) ∧ H c = some (LamX.CodeO c I.q)
def D.flato : D → Bool
  | .obj _ => true
  | d => d.flat
def flatfo : List (Str × D) → Bool
  | [] => true
  | (_, d) :: ds => d.flato && flatfo ds
def flatkT : List (List Key × D) → Bool
  | [] => true
  | (_, d) :: ds => d.flat && flatkT ds
def Lv.flat : Lv → Bool
  | .ins _ fs => flatfo fs
  | .dct kvs => flatk kvs
  | .dctT kvs => flatkT kvs
def Lv.flat1 : Lv → Bool
  | .ins _ fs => flatf fs
  | .dct kvs => flatk kvs
  | .dctT kvs => flatkT kvs
def RpkT (K : PySem.W.Frag) (T : Tb) (ω : Wd) : List (List Key × D) → List (List Key × V) → Prop
  | [], gs => gs = []
  | (f, d) :: fs, gs => ∃ v hs, gs = (f, v) :: hs ∧ Rp K T ω d v ∧ RpkT K T ω fs hs
def Lvr (K : PySem.W.Frag) (T : Tb) (ω : Wd) : Lv → HO → Prop
  | .ins C fs, o => ∃ dx gs, o = .ins (T.cl C) dx gs ∧ Rpf K T ω fs gs
  | .dct kvs, o => ∃ ws, o = .dK ws ∧ Rpk K T ω kvs ws
  | .dctT kvs, o => ∃ ws, o = .dT ws ∧ RpkT K T ω kvs ws
section
variable {K : PySem.W.Frag} {T : Tb} {ω : Wd}
theorem Lvr.tbl : ∀ {v : Lv} {o : HO}, Lvr K T ω v o → ∀ ps, o ≠ .tbl ps
  | .ins _ _, _, ⟨_, _, e, _⟩, _, z => by rw [e] at z; cases z
  | .dct _, _, ⟨_, e, _⟩, _, z => by rw [e] at z; cases z
  | .dctT _, _, ⟨_, e, _⟩, _, z => by rw [e] at z; cases z
theorem Lvr.lst : ∀ {v : Lv} {o : HO}, Lvr K T ω v o → ∀ vs, o ≠ .lst vs
  | .ins _ _, _, ⟨_, _, e, _⟩, _, z => by rw [e] at z; cases z
  | .dct _, _, ⟨_, e, _⟩, _, z => by rw [e] at z; cases z
  | .dctT _, _, ⟨_, e, _⟩, _, z => by rw [e] at z; cases z
theorem Lvr.code : ∀ {v : Lv} {o : HO}, Lvr K T ω v o → ∀ c q, o ≠ LamX.CodeO c q
  | .ins _ _, _, ⟨_, _, e, _⟩, _, _, z => by unfold LamX.CodeO at z; rw [e] at z; cases z
  | .dct _, _, ⟨_, e, _⟩, _, _, z => by unfold LamX.CodeO at z; rw [e] at z; cases z
  | .dctT _, _, ⟨_, e, _⟩, _, _, z => by unfold LamX.CodeO at z; rw [e] at z; cases z
end
structure Rl0 (K : PySem.W.Frag) (T : Tb) (ω : Wd) (S : Store) (H : Hp) : Prop where
  sub : Same ω.F H
  len : S.L.length = ω.n
  obj : ∀ k ds, S.get k = some ds → ω.F (ω.al k) = none ∧ flats ds = true ∧ ∃ vs, H (ω.al k) = some (.lst vs) ∧ Rps K T ω ds vs
  inj : ∀ j k ds es, S.get j = some ds → S.get k = some es → ω.al j = ω.al k → j = k
  lenO : S.O.length = ω.m
  objO : ∀ (k : Nat) (v : Lv), S.O[k]? = some v → ω.F (ω.ao k) = none ∧ v.flat = true ∧ ∃ o, H (ω.ao k) = some o ∧ Lvr K T ω v o
  injO : ∀ j k, j < ω.m → k < ω.m → ω.ao j = ω.ao k → j = k
  nt : ∀ b ps, ω.F b ≠ some (.tbl ps)
  tab : LamX.Tabs T.tabs H ∧ LamCs T ω.F H
def Own (ω : Wd) (S : Store) (a : Addr) : Prop := (∃ o, ω.F a = some o) ∨ (∃ k ds, S.get k = some ds ∧ ω.al k = a) ∨ ∃ k, k < ω.m ∧ ω.ao k = a
structure Ext (ω : Wd) (S : Store) (H : Hp) (ω' : Wd) (S' : Store) (H' : Hp) : Prop where
  fix : Same ω.F ω'.F
  al : ∀ k, k < ω.n → ω'.al k = ω.al k
  len : ω.n ≤ ω'.n
  ao : ∀ k, k < ω.m → ω'.ao k = ω.ao k
  lenO : ω.m ≤ ω'.m
  live : ∀ k es, k < ω.n → S'.get k = some es → ∃ ds, S.get k = some ds
  frame : ∀ a o, H a = some o → (∀ ps, o ≠ .tbl ps) → ¬ Own ω S a → H' a = some o ∧ ¬ Own ω' S' a
theorem Ext.refl {ω : Wd} {S : Store} {H : Hp} : Ext ω S H ω S H := ⟨Same.refl _, fun _ _ => rfl, Nat.le_refl _, fun _ _ => rfl, Nat.le_refl _, fun _ es _ h => ⟨es, h⟩, fun _ _ h _ n => ⟨h, n⟩⟩
theorem Ext.trans {ω ω1 ω2 : Wd} {S S1 S2 : Store} {H H1 H2 : Hp} (a : Ext ω S H ω1 S1 H1) (b : Ext ω1 S1 H1 ω2 S2 H2) : Ext ω S H ω2 S2 H2 :=
  ⟨a.fix.trans b.fix, fun k hk => (b.al k (Nat.lt_of_lt_of_le hk a.len)).trans (a.al k hk), Nat.le_trans a.len b.len, fun k hk => (b.ao k (Nat.lt_of_lt_of_le hk a.lenO)).trans (a.ao k hk), Nat.le_trans a.lenO b.lenO, fun k es hk h => by
    obtain ⟨ds, h1⟩ := b.live k es (Nat.lt_of_lt_of_le hk a.len) h
    exact a.live k ds hk h1, fun c o h t n => by
    obtain ⟨h1, n1⟩ := a.frame c o h t n
    exact b.frame c o h1 t n1⟩
def Plain : HO → Prop
  | .lst _ => True
  | .dK _ => True
  | .dT _ => True
  | .ins _ _ _ => True
  | _ => False
theorem tabs_putP {T : List (Addr × Str)} {H : Hp} {A : Addr} {o : HO} (t : LamX.Tabs T H) (h : H A = none ∨ ∃ u, H A = some u ∧ Plain u) : LamX.Tabs T (upd H A o) := fun p hp => by
  obtain ⟨ps, h1, h2, h3⟩ := t p hp
  have n1 : p.1 ≠ A := fun z => by
    rw [z] at h1
    rcases h with h | ⟨vs, h, q⟩ <;> rw [h] at h1 <;> cases h1
    exact q
  refine ⟨ps, by rw [upd_ne n1]; exact h1, h2, fun pos cv hc => ?_⟩
  obtain ⟨c, e1, e2⟩ := h3 pos cv hc
  have n2 : c ≠ A := fun z => by
    rw [z] at e2
    unfold LamX.CodeO at e2
    rcases h with h | ⟨vs, h, q⟩ <;> rw [h] at e2 <;> cases e2
    exact q
  exact ⟨c, e1, by rw [upd_ne n2]; exact e2⟩
theorem lamcs_put {T : Tb} {F H : Hp} {A : Addr} {o : HO} (t : LamCs T F H) (h : H A = none ∨ ∃ u, H A = some u ∧ Plain u) : LamCs T F (upd H A o) := fun I hI f hf => by
  obtain ⟨c, e1, e2⟩ := t I hI f hf
  refine ⟨c, e1, ?_⟩
  rw [upd_ne fun z => ?_]
  · exact e2
  · rw [z] at e2
    unfold LamX.CodeO at e2
    rcases h with h | ⟨vs, h, q⟩ <;> rw [h] at e2 <;> cases e2
    exact q
theorem lamcs_F {T : Tb} {F H : Hp} {A : Addr} {o : HO} (t : LamCs T F H) (h : ∀ I, T.lam = some I → ∀ c, o ≠ LamO I A c) : LamCs T (upd F A o) H := fun I hI f ⟨c, e⟩ => by
  by_cases hb : f = A
  · subst hb
    rw [upd_same] at e
    exact absurd (Option.some.inj e) (h I hI c)
  · rw [upd_ne hb] at e
    obtain ⟨c2, e1, e2⟩ := t I hI f ⟨c, e⟩
    exact ⟨c2, by rw [upd_ne hb]; exact e1, e2⟩
theorem lamcs_ext {T : Tb} {F H H1 : Hp} (t : LamCs T F H) (e : LamX.ExtN H H1) : LamCs T F H1 := fun I hI f hf => by
  obtain ⟨c, e1, e2⟩ := t I hI f hf
  exact ⟨c, e1, e _ _ e2 fun ps z => LamX.codeO_ne ps z⟩
theorem lamO_lst {I : LamI} {f c : Addr} {vs : List V} : HO.lst vs ≠ LamO I f c := fun z => by
  unfold LamO at z
  cases z
theorem plainL {H : Hp} {A : Addr} (h : H A = none ∨ ∃ vs, H A = some (.lst vs)) : H A = none ∨ ∃ u, H A = some u ∧ Plain u := h.imp id fun ⟨vs, e⟩ => ⟨_, e, trivial⟩
theorem tabs_put {T : List (Addr × Str)} {H : Hp} {A : Addr} {o : HO} (t : LamX.Tabs T H) (h : H A = none ∨ ∃ vs, H A = some (.lst vs)) : LamX.Tabs T (upd H A o) := tabs_putP t (plainL h)
theorem Rl0.extN {K : PySem.W.Frag} {T : Tb} {ω : Wd} {S : Store} {H H1 : Hp} (rl : Rl0 K T ω S H) (e : LamX.ExtN H H1) (t : LamX.Tabs T.tabs H1) : Ext ω S H ω S H1 ∧ Rl0 K T ω S H1 := by
  refine ⟨⟨fun _ _ h => h, fun _ _ => rfl, Nat.le_refl _, fun _ _ => rfl, Nat.le_refl _, fun _ es _ h => ⟨es, h⟩, fun a o h tt n => ⟨e a o h tt, n⟩⟩, ⟨fun b o h => e b o (rl.sub b o h) fun ps z => rl.nt b ps (by rw [h, z]), rl.len, fun k ds h => ?_, rl.inj, rl.lenO, fun k v h => ?_, rl.injO, rl.nt, ⟨t, lamcs_ext rl.tab.2 e⟩⟩⟩
  · obtain ⟨a1, a2, vs, a3, a4⟩ := rl.obj k ds h
    exact ⟨a1, a2, vs, e _ _ a3 (fun ps z => by cases z), a4⟩
  · obtain ⟨a1, a2, o2, a3, a4⟩ := rl.objO k v h
    exact ⟨a1, a2, o2, e _ _ a3 (fun ps z => a4.tbl ps z), a4⟩
structure Later (ω ω' : Wd) : Prop where
  fix : Same ω.F ω'.F
  al : ∀ k, k < ω.n → ω'.al k = ω.al k
  len : ω.n ≤ ω'.n
  ao : ∀ k, k < ω.m → ω'.ao k = ω.ao k
  lenO : ω.m ≤ ω'.m
theorem Ext.later {ω ω' : Wd} {S S' : Store} {H H' : Hp} (e : Ext ω S H ω' S' H') : Later ω ω' := ⟨e.fix, e.al, e.len, e.ao, e.lenO⟩
theorem Later.refl {ω : Wd} : Later ω ω := ⟨Same.refl _, fun _ _ => rfl, Nat.le_refl _, fun _ _ => rfl, Nat.le_refl _⟩
theorem Later.trans {a b c : Wd} (x : Later a b) (y : Later b c) : Later a c := ⟨x.fix.trans y.fix, fun k h => (y.al k (Nat.lt_of_lt_of_le h x.len)).trans (x.al k h), Nat.le_trans x.len y.len, fun k h => (y.ao k (Nat.lt_of_lt_of_le h x.lenO)).trans (x.ao k h), Nat.le_trans x.lenO y.lenO⟩
def Pins (ps : List (Wd × Addr × Str)) (ω : Wd) (H : Hp) : Prop := ∀ p ∈ ps, Later p.1 ω ∧ H p.2.1 = some (LamX.CodeO p.2.1 p.2.2)
structure Rl (K : PySem.W.Frag) (T : Tb) (ω : Wd) (S : Store) (H : Hp) : Prop extends Rl0 K T ω S H where
  pinned : Pins T.pin ω H
theorem codeO_lst {c : Addr} {q : Str} {vs : List V} : some (LamX.CodeO c q) ≠ some (.lst vs) := fun z => by
  unfold LamX.CodeO at z
  cases z
theorem Rl0.not_own {K : PySem.W.Frag} {T : Tb} {ω : Wd} {S : Store} {H : Hp} {c : Addr} {q : Str} (rl : Rl0 K T ω S H) (h : H c = some (LamX.CodeO c q)) (hF : ω.F c = none) : ¬ Own ω S c := by
  rintro (⟨o, z⟩ | ⟨k, ds, z, e⟩ | ⟨k, hk, e⟩)
  · rw [hF] at z; cases z
  · obtain ⟨_, _, vs, a3, _⟩ := rl.obj k ds z
    rw [e, h] at a3
    exact codeO_lst a3
  · have hk' : k < S.O.length := by rw [rl.lenO]; exact hk
    obtain ⟨_, _, o2, a3, a4⟩ := rl.objO k _ (show S.O[k]? = some S.O[k] by simp [hk'])
    rw [e, h] at a3
    exact a4.code _ _ (Option.some.inj a3).symm
theorem pin_ext {K : PySem.W.Frag} {T : Tb} {ω ω' : Wd} {S S' : Store} {H H' : Hp} (rl : Rl K T ω S H) (e : Ext ω S H ω' S' H') (sub : Same ω'.F H') : Pins T.pin ω' H' := fun p hp => by
  obtain ⟨h1, h2⟩ := rl.pinned p hp
  refine ⟨h1.trans e.later, ?_⟩
  cases hF : ω.F p.2.1 with
  | none => exact (e.frame _ _ h2 (fun ps z => LamX.codeO_ne ps z) (rl.toRl0.not_own h2 hF)).1
  | some o =>
    have h3 := rl.sub _ _ hF
    rw [h2] at h3
    rw [h3]
    exact sub _ _ (e.fix _ _ hF)
theorem Rl.extN {K : PySem.W.Frag} {T : Tb} {ω : Wd} {S : Store} {H H1 : Hp} (rl : Rl K T ω S H) (e : LamX.ExtN H H1) (t : LamX.Tabs T.tabs H1) : Ext ω S H ω S H1 ∧ Rl K T ω S H1 :=
  let ⟨x, y⟩ := rl.toRl0.extN e t
  ⟨x, ⟨y, pin_ext rl x y.sub⟩⟩
theorem Same.seqT {K : PySem.W.Frag} {H H' : Hp} {a : Addr} {xs : List V} (e : Same H H') (h : SqT K H a xs) : SqT K H' a xs := by
  rcases h with (h | ⟨o, h⟩) | h
  · exact .inl (.inl (e _ _ h))
  · exact .inl (.inr ⟨o, e _ _ h⟩)
  · exact .inr h
section
variable {K : PySem.W.Frag} {T : Tb} {ω ω' : Wd}
mutual
theorem Rp.mono (fx : Same ω.F ω'.F) (al : ∀ k, k < ω.n → ω'.al k = ω.al k) (ln : ω.n ≤ ω'.n) (ao : ∀ k, k < ω.m → ω'.ao k = ω.ao k) (lo : ω.m ≤ ω'.m) : ∀ (d : D) (v : V), Rp K T ω d v → Rp K T ω' d v
  | .non, v, h => h
  | .bl b, v, h => h
  | .int i, v, h => h
  | .str x, v, h => h
  | .tup ds, v, h => by
    unfold Rp at h ⊢
    obtain ⟨a, vs, e, q, r⟩ := h
    exact ⟨a, vs, e, Same.seqT fx q, Rps.mono fx al ln ao lo ds vs r⟩
  | .lst ds, v, h => by
    unfold Rp at h ⊢
    obtain ⟨a, vs, e, q, r⟩ := h
    exact ⟨a, vs, e, fx _ _ q, Rps.mono fx al ln ao lo ds vs r⟩
  | .ins C fs, v, h => by
    unfold Rp at h ⊢
    obtain ⟨a, dx, gs, e, q, r⟩ := h
    exact ⟨a, dx, gs, e, fx _ _ q, Rpf.mono fx al ln ao lo fs gs r⟩
  | .dct fs, v, h => by
    unfold Rp at h ⊢
    obtain ⟨a, gs, e, q, r⟩ := h
    exact ⟨a, gs, e, fx _ _ q, Rpk.mono fx al ln ao lo fs gs r⟩
  | .odc, v, h => by
    unfold Rp at h ⊢
    obtain ⟨a, e, q⟩ := h
    exact ⟨a, e, fx _ _ q⟩
  | .lam, v, h => by
    unfold Rp at h ⊢
    obtain ⟨f, e, I, c, e1, q⟩ := h
    exact ⟨f, e, I, c, e1, fx _ _ q⟩
  | .ptr k, v, h => by
    unfold Rp at h ⊢
    exact ⟨Nat.lt_of_lt_of_le h.1 ln, by rw [al k h.1]; exact h.2⟩
  | .obj k, v, h => by
    unfold Rp at h ⊢
    exact ⟨Nat.lt_of_lt_of_le h.1 lo, by rw [ao k h.1]; exact h.2⟩
  | .src ns, v, h => by
    unfold Rp at h ⊢
    obtain ⟨a, e, q⟩ := h
    exact ⟨a, e, Same.seq fx q⟩
  | .fn id, v, h => h
  | .exc c args, v, h => by
    unfold Rp at h ⊢
    obtain ⟨e, ec, ws, r, h1, h2⟩ := h
    exact ⟨e, ec, ws, Rps.mono fx al ln ao lo args ws r, h1, fun w hw => let ⟨d, e1, e2⟩ := h2 w hw; ⟨d, e1, fx _ _ e2⟩⟩
theorem Rps.mono (fx : Same ω.F ω'.F) (al : ∀ k, k < ω.n → ω'.al k = ω.al k) (ln : ω.n ≤ ω'.n) (ao : ∀ k, k < ω.m → ω'.ao k = ω.ao k) (lo : ω.m ≤ ω'.m) : ∀ (ds : List D) (vs : List V), Rps K T ω ds vs → Rps K T ω' ds vs
  | [], vs, h => h
  | d :: ds, vs, h => by
    unfold Rps at h ⊢
    obtain ⟨v, ws, e, q, r⟩ := h
    exact ⟨v, ws, e, Rp.mono fx al ln ao lo d v q, Rps.mono fx al ln ao lo ds ws r⟩
theorem Rpf.mono (fx : Same ω.F ω'.F) (al : ∀ k, k < ω.n → ω'.al k = ω.al k) (ln : ω.n ≤ ω'.n) (ao : ∀ k, k < ω.m → ω'.ao k = ω.ao k) (lo : ω.m ≤ ω'.m) : ∀ (fs : List (Str × D)) (gs : List (Str × V)), Rpf K T ω fs gs → Rpf K T ω' fs gs
  | [], gs, h => h
  | (f, d) :: fs, gs, h => by
    unfold Rpf at h ⊢
    obtain ⟨v, hs, e, q, r⟩ := h
    exact ⟨v, hs, e, Rp.mono fx al ln ao lo d v q, Rpf.mono fx al ln ao lo fs hs r⟩
theorem Rpk.mono (fx : Same ω.F ω'.F) (al : ∀ k, k < ω.n → ω'.al k = ω.al k) (ln : ω.n ≤ ω'.n) (ao : ∀ k, k < ω.m → ω'.ao k = ω.ao k) (lo : ω.m ≤ ω'.m) : ∀ (fs : List (Key × D)) (gs : List (Key × V)), Rpk K T ω fs gs → Rpk K T ω' fs gs
  | [], gs, h => h
  | (f, d) :: fs, gs, h => by
    unfold Rpk at h ⊢
    obtain ⟨v, hs, e, q, r⟩ := h
    exact ⟨v, hs, e, Rp.mono fx al ln ao lo d v q, Rpk.mono fx al ln ao lo fs hs r⟩
end
theorem RpkT.mono (fx : Same ω.F ω'.F) (al : ∀ k, k < ω.n → ω'.al k = ω.al k) (ln : ω.n ≤ ω'.n) (ao : ∀ k, k < ω.m → ω'.ao k = ω.ao k) (lo : ω.m ≤ ω'.m) : ∀ (fs : List (List Key × D)) (gs : List (List Key × V)), RpkT K T ω fs gs → RpkT K T ω' fs gs
  | [], gs, h => h
  | (f, d) :: fs, gs, h => by
    unfold RpkT at h ⊢
    obtain ⟨v, hs, e, q, r⟩ := h
    exact ⟨v, hs, e, Rp.mono fx al ln ao lo d v q, RpkT.mono fx al ln ao lo fs hs r⟩
theorem Lvr.mono (fx : Same ω.F ω'.F) (al : ∀ k, k < ω.n → ω'.al k = ω.al k) (ln : ω.n ≤ ω'.n) (ao : ∀ k, k < ω.m → ω'.ao k = ω.ao k) (lo : ω.m ≤ ω'.m) : ∀ {v : Lv} {o : HO}, Lvr K T ω v o → Lvr K T ω' v o
  | .ins _ fs, _, ⟨dx, gs, e, r⟩ => ⟨dx, gs, e, Rpf.mono fx al ln ao lo fs gs r⟩
  | .dct kvs, _, ⟨ws, e, r⟩ => ⟨ws, e, Rpk.mono fx al ln ao lo kvs ws r⟩
  | .dctT kvs, _, ⟨ws, e, r⟩ => ⟨ws, e, RpkT.mono fx al ln ao lo kvs ws r⟩
mutual
theorem Rp.flat (fx : Same ω.F ω'.F) : ∀ (d : D) (v : V), d.flat = true → Rp K T ω d v → Rp K T ω' d v
  | .non, v, _, h => h
  | .bl b, v, _, h => h
  | .int i, v, _, h => h
  | .str x, v, _, h => h
  | .tup ds, v, f, h => by
    unfold Rp at h ⊢
    obtain ⟨a, vs, e, q, r⟩ := h
    exact ⟨a, vs, e, Same.seqT fx q, Rps.flat fx ds vs f r⟩
  | .lst ds, v, f, h => by
    unfold Rp at h ⊢
    obtain ⟨a, vs, e, q, r⟩ := h
    exact ⟨a, vs, e, fx _ _ q, Rps.flat fx ds vs f r⟩
  | .ins C fs, v, f, h => by
    unfold Rp at h ⊢
    obtain ⟨a, dx, gs, e, q, r⟩ := h
    exact ⟨a, dx, gs, e, fx _ _ q, Rpf.flat fx fs gs f r⟩
  | .dct fs, v, f, h => by
    unfold Rp at h ⊢
    obtain ⟨a, gs, e, q, r⟩ := h
    exact ⟨a, gs, e, fx _ _ q, Rpk.flat fx fs gs f r⟩
  | .odc, v, f, h => by
    unfold Rp at h ⊢
    obtain ⟨a, e, q⟩ := h
    exact ⟨a, e, fx _ _ q⟩
  | .lam, v, f, h => by cases f
  | .ptr k, v, f, h => by cases f
  | .obj k, v, f, h => by cases f
  | .src ns, v, f, h => by
    unfold Rp at h ⊢
    obtain ⟨a, e, q⟩ := h
    exact ⟨a, e, Same.seq fx q⟩
  | .fn id, v, _, h => h
  | .exc c args, v, f, h => by cases f
theorem Rps.flat (fx : Same ω.F ω'.F) : ∀ (ds : List D) (vs : List V), flats ds = true → Rps K T ω ds vs → Rps K T ω' ds vs
  | [], vs, _, h => h
  | d :: ds, vs, f, h => by
    unfold Rps at h ⊢
    obtain ⟨v, ws, e, q, r⟩ := h
    unfold flats at f
    rw [Bool.and_eq_true] at f
    exact ⟨v, ws, e, Rp.flat fx d v f.1 q, Rps.flat fx ds ws f.2 r⟩
theorem Rpf.flat (fx : Same ω.F ω'.F) : ∀ (fs : List (Str × D)) (gs : List (Str × V)), flatf fs = true → Rpf K T ω fs gs → Rpf K T ω' fs gs
  | [], gs, _, h => h
  | (g, d) :: fs, gs, f, h => by
    unfold Rpf at h ⊢
    obtain ⟨v, hs, e, q, r⟩ := h
    unfold flatf at f
    rw [Bool.and_eq_true] at f
    exact ⟨v, hs, e, Rp.flat fx d v f.1 q, Rpf.flat fx fs hs f.2 r⟩
theorem Rpk.flat (fx : Same ω.F ω'.F) : ∀ (fs : List (Key × D)) (gs : List (Key × V)), flatk fs = true → Rpk K T ω fs gs → Rpk K T ω' fs gs
  | [], gs, _, h => h
  | (g, d) :: fs, gs, f, h => by
    unfold Rpk at h ⊢
    obtain ⟨v, hs, e, q, r⟩ := h
    unfold flatk at f
    rw [Bool.and_eq_true] at f
    exact ⟨v, hs, e, Rp.flat fx d v f.1 q, Rpk.flat fx fs hs f.2 r⟩
end
theorem Rp.flato (fx : Same ω.F ω'.F) (ao : ∀ k, k < ω.m → ω'.ao k = ω.ao k) (lo : ω.m ≤ ω'.m) (d : D) (v : V) (f : d.flato = true) (h : Rp K T ω d v) : Rp K T ω' d v := by
  cases d with
  | obj k =>
    unfold Rp at h ⊢
    exact ⟨Nat.lt_of_lt_of_le h.1 lo, by rw [ao k h.1]; exact h.2⟩
  | _ => exact Rp.flat fx _ v f h
theorem Rpf.flato (fx : Same ω.F ω'.F) (ao : ∀ k, k < ω.m → ω'.ao k = ω.ao k) (lo : ω.m ≤ ω'.m) : ∀ (fs : List (Str × D)) (gs : List (Str × V)), flatfo fs = true → Rpf K T ω fs gs → Rpf K T ω' fs gs
  | [], gs, _, h => h
  | (g, d) :: fs, gs, f, h => by
    unfold Rpf at h ⊢
    obtain ⟨v, hs, e, q, r⟩ := h
    unfold flatfo at f
    rw [Bool.and_eq_true] at f
    exact ⟨v, hs, e, Rp.flato fx ao lo d v f.1 q, Rpf.flato fx ao lo fs hs f.2 r⟩
theorem RpkT.flat (fx : Same ω.F ω'.F) : ∀ (fs : List (List Key × D)) (gs : List (List Key × V)), flatkT fs = true → RpkT K T ω fs gs → RpkT K T ω' fs gs
  | [], gs, _, h => h
  | (g, d) :: fs, gs, f, h => by
    unfold RpkT at h ⊢
    obtain ⟨v, hs, e, q, r⟩ := h
    unfold flatkT at f
    rw [Bool.and_eq_true] at f
    exact ⟨v, hs, e, Rp.flat fx d v f.1 q, RpkT.flat fx fs hs f.2 r⟩
theorem Lvr.flat (fx : Same ω.F ω'.F) (ao : ∀ k, k < ω.m → ω'.ao k = ω.ao k) (lo : ω.m ≤ ω'.m) : ∀ {v : Lv} {o : HO}, v.flat = true → Lvr K T ω v o → Lvr K T ω' v o
  | .ins _ fs, _, f, ⟨dx, gs, e, r⟩ => ⟨dx, gs, e, Rpf.flato fx ao lo fs gs f r⟩
  | .dct kvs, _, f, ⟨ws, e, r⟩ => ⟨ws, e, Rpk.flat fx kvs ws f r⟩
  | .dctT kvs, _, f, ⟨ws, e, r⟩ => ⟨ws, e, RpkT.flat fx kvs ws f r⟩
theorem Lvr.flat1 (fx : Same ω.F ω'.F) : ∀ {v : Lv} {o : HO}, v.flat1 = true → Lvr K T ω v o → Lvr K T ω' v o
  | .ins _ fs, _, f, ⟨dx, gs, e, r⟩ => ⟨dx, gs, e, Rpf.flat fx fs gs f r⟩
  | .dct kvs, _, f, ⟨ws, e, r⟩ => ⟨ws, e, Rpk.flat fx kvs ws f r⟩
  | .dctT kvs, _, f, ⟨ws, e, r⟩ => ⟨ws, e, RpkT.flat fx kvs ws f r⟩
theorem Rps.length : ∀ {ds : List D} {vs : List V}, Rps K T ω ds vs → ds.length = vs.length
  | [], vs, h => by unfold Rps at h; rw [h]; rfl
  | d :: ds, vs, h => by
    unfold Rps at h
    obtain ⟨v, ws, rfl, _, r⟩ := h
    simp [Rps.length r]
theorem Rps.get : ∀ {ds : List D} {vs : List V} {i : Nat} {d : D}, Rps K T ω ds vs → ds[i]? = some d → ∃ v, vs[i]? = some v ∧ Rp K T ω d v
  | [], vs, _, _, _, e => by simp at e
  | d :: ds, vs, 0, x, h, e => by
    unfold Rps at h
    obtain ⟨v, ws, rfl, q, _⟩ := h
    simp at e; subst e
    exact ⟨v, rfl, q⟩
  | d :: ds, vs, i + 1, x, h, e => by
    unfold Rps at h
    obtain ⟨v, ws, rfl, _, r⟩ := h
    obtain ⟨u, e1, e2⟩ := Rps.get (i := i) r (by simpa using e)
    exact ⟨u, by simpa using e1, e2⟩
theorem Rps.get' : ∀ {ds : List D} {vs : List V} {i : Nat} {v : V}, Rps K T ω ds vs → vs[i]? = some v → ∃ d, ds[i]? = some d ∧ Rp K T ω d v
  | [], vs, _, _, h, e => by unfold Rps at h; rw [h] at e; simp at e
  | d :: ds, vs, 0, x, h, e => by
    unfold Rps at h
    obtain ⟨v, ws, rfl, q, _⟩ := h
    simp at e; subst e
    exact ⟨d, rfl, q⟩
  | d :: ds, vs, i + 1, x, h, e => by
    unfold Rps at h
    obtain ⟨v, ws, rfl, _, r⟩ := h
    obtain ⟨u, e1, e2⟩ := Rps.get' (i := i) r (by simpa using e)
    exact ⟨u, by simpa using e1, e2⟩
theorem Rps.nil : Rps K T ω [] [] := by unfold Rps; rfl
theorem Rps.cons {d : D} {v : V} {ds : List D} {vs : List V} (h : Rp K T ω d v) (r : Rps K T ω ds vs) : Rps K T ω (d :: ds) (v :: vs) := by
  unfold Rps; exact ⟨v, vs, rfl, h, r⟩
theorem Rps.of_get : ∀ {ds : List D} {vs : List V}, ds.length = vs.length → (∀ (i : Nat) d v, ds[i]? = some d → vs[i]? = some v → Rp K T ω d v) → Rps K T ω ds vs
  | [], [], _, _ => Rps.nil
  | [], _ :: _, h, _ => by simp at h
  | _ :: _, [], h, _ => by simp at h
  | d :: ds, v :: vs, h, f => Rps.cons (f 0 d v rfl rfl) (Rps.of_get (by simpa using h) fun i d' v' h1 h2 => f (i + 1) d' v' (by simpa using h1) (by simpa using h2))
theorem Rps.append : ∀ {ds es : List D} {vs ws : List V}, Rps K T ω ds vs → Rps K T ω es ws → Rps K T ω (ds ++ es) (vs ++ ws)
  | [], es, vs, ws, h, r => by unfold Rps at h; subst h; exact r
  | d :: ds, es, vs, ws, h, r => by
    unfold Rps at h
    obtain ⟨v, us, rfl, q, s⟩ := h
    exact Rps.cons q (Rps.append s r)
theorem Rps.set : ∀ {ds : List D} {vs : List V} {d : D} {v : V} (i : Nat), Rps K T ω ds vs → Rp K T ω d v → Rps K T ω (ds.set i d) (vs.set i v)
  | [], vs, _, _, _, h, _ => by unfold Rps at h; subst h; exact Rps.nil
  | e :: ds, vs, d, v, 0, h, r => by
    unfold Rps at h
    obtain ⟨u, us, rfl, q, s⟩ := h
    exact Rps.cons r s
  | e :: ds, vs, d, v, i + 1, h, r => by
    unfold Rps at h
    obtain ⟨u, us, rfl, q, s⟩ := h
    exact Rps.cons q (Rps.set i s r)
theorem Rps.drop : ∀ {ds : List D} {vs : List V} (i : Nat), Rps K T ω ds vs → Rps K T ω (ds.drop i) (vs.drop i)
  | ds, vs, 0, h => h
  | [], vs, i + 1, h => by unfold Rps at h; subst h; exact Rps.nil
  | e :: ds, vs, i + 1, h => by
    unfold Rps at h
    obtain ⟨u, us, rfl, q, s⟩ := h
    exact Rps.drop i s
theorem Rps.take : ∀ {ds : List D} {vs : List V} (i : Nat), Rps K T ω ds vs → Rps K T ω (ds.take i) (vs.take i)
  | ds, vs, 0, h => by simpa using Rps.nil
  | [], vs, i + 1, h => by unfold Rps at h; subst h; exact Rps.nil
  | e :: ds, vs, i + 1, h => by
    unfold Rps at h
    obtain ⟨u, us, rfl, q, s⟩ := h
    exact Rps.cons q (Rps.take i s)
theorem Rps.dropLast : ∀ {ds : List D} {vs : List V}, Rps K T ω ds vs → Rps K T ω ds.dropLast vs.dropLast := fun {ds vs} h => by
  rw [List.dropLast_eq_take, List.dropLast_eq_take, h.length]
  exact h.take _
theorem Rps.ints : ∀ {ds : List D} {vs : List V} {ns : List Int}, Rps K T ω ds vs → intsOf ds = some ns → vs = ns.map V.int
  | [], vs, ns, h, e => by
    unfold Rps at h; subst h
    cases e; rfl
  | d :: ds, vs, ns, h, e => by
    unfold Rps at h
    obtain ⟨u, us, rfl, q, s⟩ := h
    cases d <;> try (simp [intsOf] at e; done)
    rename_i i
    cases e1 : intsOf ds with
    | none => simp [intsOf, e1] at e
    | some ms =>
      simp [intsOf, e1] at e
      subst e
      unfold Rp at q
      rw [q, Rps.ints s e1]; rfl
theorem Rps.strs : ∀ {ds : List D} {vs : List V} {ns : List Str}, Rps K T ω ds vs → strsOf ds = some ns → vs = ns.map V.str
  | [], vs, ns, h, e => by
    unfold Rps at h; subst h
    cases e; rfl
  | d :: ds, vs, ns, h, e => by
    unfold Rps at h
    obtain ⟨u, us, rfl, q, s⟩ := h
    cases d <;> try (simp [strsOf] at e; done)
    rename_i i
    cases e1 : strsOf ds with
    | none => simp [strsOf, e1] at e
    | some ms =>
      simp [strsOf, e1] at e
      subst e
      unfold Rp at q
      rw [q, Rps.strs s e1]; rfl
theorem Rps.bls : ∀ {ds : List D} {vs : List V} {ns : List Bool}, Rps K T ω ds vs → blsOf ds = some ns → vs = ns.map V.bl
  | [], vs, ns, h, e => by
    unfold Rps at h; subst h
    cases e; rfl
  | d :: ds, vs, ns, h, e => by
    unfold Rps at h
    obtain ⟨u, us, rfl, q, s⟩ := h
    cases d <;> try (simp [blsOf] at e; done)
    rename_i i
    cases e1 : blsOf ds with
    | none => simp [blsOf, e1] at e
    | some ms =>
      simp [blsOf, e1] at e
      subst e
      unfold Rp at q
      rw [q, Rps.bls s e1]; rfl
theorem Rps.of_ints (ns : List Int) : Rps K T ω (ns.map D.int) (ns.map V.int) := by
  induction ns with
  | nil => exact Rps.nil
  | cons i ns ih => exact Rps.cons (by unfold Rp; rfl) ih
end
theorem Rp.ext {K : PySem.W.Frag} {T : Tb} {ω ω' : Wd} {S S' : Store} {H H' : Hp} {d : D} {v : V} (h : Rp K T ω d v) (e : Ext ω S H ω' S' H') : Rp K T ω' d v := Rp.mono e.fix e.al e.len e.ao e.lenO d v h
theorem Rps.ext {K : PySem.W.Frag} {T : Tb} {ω ω' : Wd} {S S' : Store} {H H' : Hp} {d : List D} {v : List V} (h : Rps K T ω d v) (e : Ext ω S H ω' S' H') : Rps K T ω' d v := Rps.mono e.fix e.al e.len e.ao e.lenO d v h
def Rs (K : PySem.W.Frag) (T : Tb) (ω : Wd) (s : Sl) (σ : St) : Prop := s.length = σ.length ∧ ∀ (i : Nat) (d : D), s[i]? = some (some d) → ∃ v, σ[i]? = some (some v) ∧ Rp K T ω d v
section
variable {K : PySem.W.Frag} {T : Tb} {ω ω' : Wd} {S S' : Store} {H H' : Hp} {s : Sl} {σ : St}
theorem Rs.ext (h : Rs K T ω s σ) (e : Ext ω S H ω' S' H') : Rs K T ω' s σ := ⟨h.1, fun i d q => by
  obtain ⟨v, e1, r⟩ := h.2 i d q
  exact ⟨v, e1, r.ext e⟩⟩
theorem Rs.set (h : Rs K T ω s σ) {d : D} {v : V} (r : Rp K T ω d v) (i : Nat) : Rs K T ω (s.set i (some d)) (σ.set i (some v)) := by
  refine ⟨by rw [List.length_set, List.length_set]; exact h.1, fun j e q => ?_⟩
  by_cases hj : i = j
  · subst hj
    by_cases hl : i < s.length
    · rw [List.getElem?_set_self hl] at q
      cases q
      exact ⟨v, List.getElem?_set_self (h.1 ▸ hl), r⟩
    · rw [List.getElem?_eq_none (by simpa using hl)] at q
      cases q
  · rw [List.getElem?_set_ne hj] at q
    obtain ⟨u, e1, e2⟩ := h.2 j e q
    exact ⟨u, by rw [List.getElem?_set_ne hj]; exact e1, e2⟩
theorem Rs.drop (h : Rs K T ω s σ) (i : Nat) : Rs K T ω (s.set i none) (σ.set i none) := by
  refine ⟨by rw [List.length_set, List.length_set]; exact h.1, fun j e q => ?_⟩
  by_cases hj : i = j
  · subst hj
    by_cases hl : i < s.length
    · rw [List.getElem?_set_self hl] at q
      cases q
    · rw [List.getElem?_eq_none (by simpa using hl)] at q
      cases q
  · rw [List.getElem?_set_ne hj] at q
    obtain ⟨u, e1, e2⟩ := h.2 j e q
    exact ⟨u, by rw [List.getElem?_set_ne hj]; exact e1, e2⟩
end
end Q
set_option maxHeartbeats 1000000
namespace Q
open PySem PySem.Spec PyProof.Rows L2
structure Tx extends Tb where
  fld : Nat → Str
def ExR (K : PySem.W.Frag) (T : Tx) (ω : Wd) (e : Ex) (cls : Value) (dd : Option Addr) : Prop :=
  cls = .ref (T.cl e.cls) ∧ match e.args with
    | [] => dd = none
    | [x] => ∃ d v, dd = some d ∧ ω.F d = some (.xd [(T.fld e.cls, v)]) ∧ Rp K T.toTb ω x v
    | _ => False
section
variable {K : PySem.W.Frag} {T : Tx} {α β γ δ : Type}
def EPg (K : PySem.W.Frag) (T : Tx) (R : Wd → α → β → Prop) (W : WX) (σ : L2.St) (ω : Wd) (S : Store) (H : Hp) (r : Res α) (Qv : β → Hp → Prop) : Prop := match r with
  | .ok d S' => ∀ ω' H' v, Ext ω S H ω' S' H' → Rl K T.toTb ω' S' H' → R ω' d v → Qv v H'
  | .ex e S' => ∀ ω' H' cls dd, Ext ω S H ω' S' H' → Rl K T.toTb ω' S' H' → ExR K T ω' e cls dd → W cls dd σ H'
  | .err => False
theorem EPg.shift {R : Wd → α → β → Prop} {W : WX} {σ : L2.St} {ω ω1 : Wd} {S S1 : Store} {H H1 : Hp} {r : Res α} {Qv : β → Hp → Prop} (e : Ext ω S H ω1 S1 H1) (h : EPg K T R W σ ω S H r Qv) : EPg K T R W σ ω1 S1 H1 r Qv := by
  cases r with
  | ok d S' => exact fun ω' H' v x => h ω' H' v (e.trans x)
  | ex q S' => exact fun ω' H' c dd x => h ω' H' c dd (e.trans x)
  | err => exact h
theorem EPg.bind {R : Wd → α → β → Prop} {R2 : Wd → γ → δ → Prop} {W : WX} {σ : L2.St} {ω : Wd} {S : Store} {H : Hp} {r : Res α} {k : α → Store → Res γ} {Qv : δ → Hp → Prop} (h : EPg K T R2 W σ ω S H (r.bind k) Qv) :
    EPg K T R W σ ω S H r (fun v H1 => ∃ ω1 S1 d, Ext ω S H ω1 S1 H1 ∧ Rl K T.toTb ω1 S1 H1 ∧ R ω1 d v ∧ EPg K T R2 W σ ω1 S1 H1 (k d S1) Qv) := by
  cases r with
  | ok d S' => exact fun ω' H' v e rl rp => ⟨ω', S', d, e, rl, rp, EPg.shift e h⟩
  | ex q S' => exact h
  | err => exact h
theorem EPg.mono {R : Wd → α → β → Prop} {W : WX} {σ : L2.St} {ω : Wd} {S : Store} {H : Hp} {r : Res α} {Qv Qw : β → Hp → Prop} (h : EPg K T R W σ ω S H r Qv) (hq : ∀ v H, Qv v H → Qw v H) : EPg K T R W σ ω S H r Qw := by
  cases r with
  | ok d S' => exact fun ω' H' v e rl rp => hq _ _ (h ω' H' v e rl rp)
  | ex q S' => exact h
  | err => exact h
theorem EPg.now {R : Wd → α → β → Prop} {W : WX} {σ : L2.St} {ω : Wd} {S : Store} {H : Hp} {d : α} {v : β} {Qv : β → Hp → Prop} (h : EPg K T R W σ ω S H (.ok d S) Qv) (rl : Rl K T.toTb ω S H) (r : R ω d v) : Qv v H := h ω H v Ext.refl rl r
def tEr (K : PySem.W.Frag) (T : Tx) (W : WX) (t : Q.TE) : L2.TE := fun σ H Qv => ∃ s S ω, Rl K T.toTb ω S H ∧ Rs K T.toTb ω s σ ∧ EPg K T (Rp K T.toTb) W σ ω S H (t s S) Qv
def tAr (K : PySem.W.Frag) (T : Tx) (W : WX) (t : Q.TA) : L2.TA := fun σ H Qv => ∃ s S ω, Rl K T.toTb ω S H ∧ Rs K T.toTb ω s σ ∧ EPg K T (Rps K T.toTb) W σ ω S H (t s S) Qv
def asBool (r : Res D) : Res D := r.bind fun d S => asB d S fun b S => .ok (.bl b) S
def Rb : Wd → D → Bool → Prop := fun _ d b => d = .bl b
def tTr (K : PySem.W.Frag) (T : Tx) (W : WX) (t : Q.TE) : L2.TT := fun σ H Qv => ∃ s S ω, Rl K T.toTb ω S H ∧ Rs K T.toTb ω s σ ∧ EPg K T Rb W σ ω S H (asBool (t s S)) Qv
end
def GE (X : Cx) (T : Tx) (W : WX) (e : Expr) (t : Q.TE) : Prop := PE X e (tEr X.K T W t)
def GA (X : Cx) (T : Tx) (W : WX) (es : List Expr) (ts : List Q.TE) : Prop := PA X es (tAr X.K T W (eArgs ts))
def GT (X : Cx) (T : Tx) (W : WX) (e : Expr) (t : Q.TE) : Prop := PT X e (tTr X.K T W t)
def GW (X : Cx) (T : Tx) (W : WX) (e : Expr) (t : Q.TE) : Prop := PW X e (tTr X.K T W t)
theorem PE.imp {X : Cx} {e : Expr} {t t' : L2.TE} (h : PE X e t) (i : ∀ σ H Qv, t' σ H Qv → t σ H Qv) : PE X e t' := ⟨fun pins s σ H Qv I q => h.run pins s σ H Qv I (i _ _ _ q)⟩
theorem PT.imp {X : Cx} {e : Expr} {t t' : L2.TT} (h : PT X e t) (i : ∀ σ H Qv, t' σ H Qv → t σ H Qv) : PT X e t' := ⟨fun pins s σ H Qv I q => h.run pins s σ H Qv I (i _ _ _ q)⟩
theorem PW.imp {X : Cx} {e : Expr} {t t' : L2.TT} (h : PW X e t) (i : ∀ σ H Qv, t' σ H Qv → t σ H Qv) : PW X e t' := ⟨fun wh pins s σ H Qv I q => h.run wh pins s σ H Qv I (i _ _ _ q)⟩
theorem PA.imp {X : Cx} {es : List Expr} {t t' : L2.TA} (h : PA X es t) (i : ∀ σ H Qv, t' σ H Qv → t σ H Qv) : PA X es t' := ⟨fun pos pins s σ H Qv I q => h.run pos pins s σ H Qv I (i _ _ _ q)⟩
section
variable {X : Cx} {T : Tx} {W : WX} {a b c e : Expr} {es : List Expr} {ta tb tc : Q.TE} {ts : List Q.TE} {pos : Pos}
theorem ge_var (i : Nat) (h : PE X e (tVar i)) : GE X T W e (eV i) := PE.imp h fun σ H Qv ⟨s, S, ω, rl, rs, q⟩ => by
  unfold eV at q
  cases e1 : s[i]? with
  | none => rw [e1] at q; exact q.elim
  | some o => cases o with
    | none => rw [e1] at q; exact q.elim
    | some d =>
      rw [e1] at q
      obtain ⟨v, h1, h2⟩ := rs.2 i d e1
      exact ⟨v, h1, q.now rl h2⟩
theorem ge_c {v : V} {d : D} (h : PE X e (tC v)) (r : ∀ ω, Rp X.K T.toTb ω d v) : GE X T W e (eC d) := PE.imp h fun σ H Qv ⟨s, S, ω, rl, rs, q⟩ => q.now rl (r ω)
theorem ge_int {i j} : GE X T W (.Constant (.int i) j pos) (eC (.int i)) := ge_c pe_int fun _ => by unfold Rp; rfl
theorem ge_bl {b j} : GE X T W (.Constant (.bool b) j pos) (eC (.bl b)) := ge_c pe_bl fun _ => by unfold Rp; rfl
theorem ge_non {j} : GE X T W (.Constant .none j pos) (eC .non) := ge_c pe_non fun _ => by unfold Rp; rfl
theorem ge_str {x j} : GE X T W (.Constant (.str x) j pos) (eC (.str x)) := ge_c pe_str fun _ => by unfold Rp; rfl
theorem ge_gint {x : Str} {i : Int} {u : Value} (hg : Gl X x) (hm : X.mg x = some u) (r : RelV (.int i) u) (hd : (x == ("__debug__" : Str)) = false := by decide) : GE X T W (.Name x pos) (eC (.int i)) := ge_c (pe_glob hg hm r hd) fun _ => by unfold Rp; rfl
theorem ge_gstr {x z : Str} {u : Value} (hg : Gl X x) (hm : X.mg x = some u) (r : RelV (.str z) u) (hd : (x == ("__debug__" : Str)) = false := by decide) : GE X T W (.Name x pos) (eC (.str z)) := ge_c (pe_glob hg hm r hd) fun _ => by unfold Rp; rfl
theorem ge_gtup {x : Str} {a : Addr} {ds : List D} {vs : List V} (hg : Gl X x) (hm : X.mg x = some (.ref a)) (q : ∀ H, SqT X.K H a vs) (r : ∀ ω, Rps X.K T.toTb ω ds vs) (hd : (x == ("__debug__" : Str)) = false := by decide) : GE X T W (.Name x pos) (eC (.tup ds)) :=
  ge_c (pe_glob hg hm (v := .ref a) rfl hd) fun ω => by unfold Rp; exact ⟨a, vs, rfl, q _, r ω⟩
theorem ga_nil : GA X T W [] [] := PA.imp pa_nil fun σ H Qv ⟨s, S, ω, rl, rs, q⟩ => q.now rl Rps.nil
theorem ga_cons (ha : GE X T W a ta) (hr : GA X T W es ts) (hs : starEach (a :: es) X.env = (false, eval a X.env) :: starEach es X.env := by rfl) : GA X T W (a :: es) (ta :: ts) :=
  PA.imp (pa_cons ha hr hs) fun σ H Qv ⟨s, S, ω, rl, rs, q⟩ => by
    refine ⟨s, S, ω, rl, rs, (EPg.bind q).mono ?_⟩
    rintro v H1 ⟨ω1, S1, d, e1, rl1, r1, q1⟩
    refine ⟨s, S1, ω1, rl1, rs.ext e1, (EPg.bind q1).mono ?_⟩
    rintro vs H2 ⟨ω2, S2, ds, e2, rl2, r2, q2⟩
    exact q2.now rl2 (Rps.cons (r1.ext e2) r2)
def PQ (K : PySem.W.Frag) (T : Tx) (ω : Wd) (S : Store) (H : Hp) (o : Option (D × Store)) (Qv : VK) : Prop := match o with
  | some (d, S') => ∀ ω' H' v, Ext ω S H ω' S' H' → Rl K T.toTb ω' S' H' → Rp K T.toTb ω' d v → Qv v H'
  | none => False
theorem PQ.of {σ : L2.St} {ω : Wd} {S : Store} {H : Hp} {o : Option (D × Store)} {Qv : VK} (h : EPg X.K T (Rp X.K T.toTb) W σ ω S H (ofO o) Qv) : PQ X.K T ω S H o Qv := by
  cases o with
  | none => exact h
  | some p => exact h
theorem PQ.now {K : PySem.W.Frag} {ω : Wd} {S : Store} {H : Hp} {d : D} {v : V} {Qv : VK} (h : PQ K T ω S H (some (d, S)) Qv) (rl : Rl K T.toTb ω S H) (r : Rp K T.toTb ω d v) : Qv v H := h ω H v Ext.refl rl r
def Ok1 (K : PySem.W.Frag) (T : Tx) (r : V → Hp → VK → Prop) (f : Op1) : Prop := ∀ ω S H x u Qv, Rl K T.toTb ω S H → Rp K T.toTb ω x u → PQ K T ω S H (f x S) Qv → r u H Qv
def Ok2 (K : PySem.W.Frag) (T : Tx) (r : R2) (f : Op2) : Prop := ∀ ω S H x y u v Qv, Rl K T.toTb ω S H → Rp K T.toTb ω x u → Rp K T.toTb ω y v → PQ K T ω S H (f x y S) Qv → r u v H Qv
def OkN (K : PySem.W.Frag) (T : Tx) (r : List V → Hp → VK → Prop) (f : OpN) : Prop := ∀ ω S H xs us Qv, Rl K T.toTb ω S H → Rps K T.toTb ω xs us → PQ K T ω S H (f xs S) Qv → r us H Qv
theorem tOp_ok {r : R2} {f : Op2} (hf : Ok2 X.K T r f) (σ : L2.St) (H : Hp) (Qv : VK) (h : tEr X.K T W (e2 f ta tb) σ H Qv) : tOp r (tEr X.K T W ta) (tEr X.K T W tb) σ H Qv := by
  obtain ⟨s, S, ω, rl, rs, q⟩ := h
  refine ⟨s, S, ω, rl, rs, (EPg.bind q).mono ?_⟩
  rintro v H1 ⟨ω1, S1, d, e1, rl1, r1, q1⟩
  refine ⟨s, S1, ω1, rl1, rs.ext e1, (EPg.bind q1).mono ?_⟩
  rintro u H2 ⟨ω2, S2, d2, e2, rl2, r2, q2⟩
  exact hf _ _ _ _ _ _ _ _ rl2 (r1.ext e2) r2 (PQ.of q2)
theorem ge_op {op : Operator} {r : R2} {f : Op2} (ho : OpR X (binaryOp op) r) (hf : Ok2 X.K T r f) (ha : GE X T W a ta) (hb : GE X T W b tb) : GE X T W (.BinOp a op b pos) (e2 f ta tb) := PE.imp (pe_op ho ha hb) (tOp_ok hf)
theorem ge_cmp {op : CmpOp} {r : R2} {f : Op2} (ho : OpR X (compareOp op) r) (hf : Ok2 X.K T r f) (ha : GE X T W a ta) (hb : GE X T W b tb) (hm : behindInMarks op b = false) : GE X T W (.Compare a [op] [b] pos) (e2 f ta tb) := PE.imp (pe_cmpR ho ha hb hm) (tOp_ok hf)
theorem ge_ix {r : R2} {f : Op2} (hr : IxR X r) (hf : Ok2 X.K T r f) (ha : GE X T W a ta) (hb : GE X T W b tb) (hs : PlainIx b) : GE X T W (.Subscript a b pos) (e2 f ta tb) := PE.imp (pe_ix hr ha hb hs) (tOp_ok hf)
theorem ge_un {op : UnaryOp} {r : V → Hp → VK → Prop} {f : Op1} (ho : UnR X (unaryOp op) r) (hf : Ok1 X.K T r f) (ha : GE X T W a ta) : GE X T W (.UnaryOp op a pos) (e1 f ta) := PE.imp (pe_un ho ha) fun σ H Qv ⟨s, S, ω, rl, rs, q⟩ => by
  refine ⟨s, S, ω, rl, rs, (EPg.bind q).mono ?_⟩
  rintro v H1 ⟨ω1, S1, d, e1, rl1, r1, q1⟩
  exact hf _ _ _ _ _ _ rl1 r1 (PQ.of q1)
theorem ge_isN {j pos'} (ha : GE X T W a ta) : GE X T W (.Compare a [.Is] [.Constant .none j pos'] pos) (e1 oIsN ta) := PE.imp (pe_cmp (pc_isN ha)) fun σ H Qv ⟨s, S, ω, rl, rs, q⟩ => by
  refine ⟨s, S, ω, rl, rs, (EPg.bind q).mono ?_⟩
  rintro v H1 ⟨ω1, S1, d, e1, rl1, r1, q1⟩
  refine (PQ.of q1).now rl1 ?_
  cases d <;> unfold Rp at r1 <;> unfold Rp <;> first | (subst r1; rfl) | (obtain ⟨rfl, _, _, _, _, _⟩ := r1; rfl) | (obtain ⟨_, _, rfl, _⟩ := r1; rfl) | (obtain ⟨_, rfl⟩ := r1; rfl) | (obtain ⟨_, _, _, rfl, _⟩ := r1; rfl) | (obtain ⟨_, rfl, _⟩ := r1; rfl)
theorem ge_notN {j pos'} (ha : GE X T W a ta) : GE X T W (.Compare a [.IsNot] [.Constant .none j pos'] pos) (e1 oNotN ta) := PE.imp (pe_cmp (pc_notN ha)) fun σ H Qv ⟨s, S, ω, rl, rs, q⟩ => by
  refine ⟨s, S, ω, rl, rs, (EPg.bind q).mono ?_⟩
  rintro v H1 ⟨ω1, S1, d, e1, rl1, r1, q1⟩
  refine (PQ.of q1).now rl1 ?_
  cases d <;> unfold Rp at r1 <;> unfold Rp <;> first | (subst r1; rfl) | (obtain ⟨rfl, _, _, _, _, _⟩ := r1; rfl) | (obtain ⟨_, _, rfl, _⟩ := r1; rfl) | (obtain ⟨_, rfl⟩ := r1; rfl) | (obtain ⟨_, _, _, rfl, _⟩ := r1; rfl) | (obtain ⟨_, rfl, _⟩ := r1; rfl)
theorem ge_chain {op op' : CmpOp} {r r' : R2} {f g : Op2} (ho : OpR X (compareOp op) r) (ho' : OpR X (compareOp op') r') (hf : Ok2 X.K T r f) (hg : Ok2 X.K T r' g) (ha : GE X T W a ta) (hb : GE X T W b tb) (hc : GE X T W c tc)
    (h : PE X (.Compare a [op, op'] [b, c] pos) (tChain r r' (tEr X.K T W ta) (tEr X.K T W tb) (tEr X.K T W tc))) : GE X T W (.Compare a [op, op'] [b, c] pos) (eChain f g ta tb tc) := PE.imp h fun σ H Qv ⟨s, S, ω, rl, rs, q⟩ => by
  refine ⟨s, S, ω, rl, rs, (EPg.bind q).mono ?_⟩
  rintro v H1 ⟨ω1, S1, d, e1, rl1, r1, q1⟩
  refine ⟨s, S1, ω1, rl1, rs.ext e1, (EPg.bind q1).mono ?_⟩
  rintro u H2 ⟨ω2, S2, d2, e2, rl2, r2, q2⟩
  refine hf ω2 S2 H2 d d2 v u _ rl2 (r1.ext e2) r2 (PQ.of (X := X) (T := T) (W := W) (σ := σ) ((EPg.bind q2).mono ?_))
  rintro z H3 ⟨ω3, S3, d3, e3, rl3, r3, q3⟩
  cases d3 <;> try exact q3.elim
  rename_i k
  unfold Rp at r3
  refine ⟨k, r3, ?_⟩
  cases k with
  | false => exact iteF (q3.now rl3 (by unfold Rp; rfl))
  | true =>
    refine iteT ?_
    have e23 := e2.trans e3
    refine ⟨s, S3, ω3, rl3, (rs.ext e1).ext e23, (EPg.bind q3).mono ?_⟩
    rintro y H4 ⟨ω4, S4, d4, e4, rl4, r4, q4⟩
    exact hg _ _ _ _ _ _ _ _ rl4 ((r2.ext e3).ext e4) r4 (PQ.of q4)
theorem asB_bl {ω : Wd} {d : D} {v : V} {S : Store} {k : Bool → Store → Res D} {σ : L2.St} {H : Hp} {Qv : VK} (r : Rp X.K T.toTb ω d v) (q : EPg X.K T (Rp X.K T.toTb) W σ ω S H (asB d S k) Qv) : ∃ b, d = .bl b ∧ v = .bl b ∧ EPg X.K T (Rp X.K T.toTb) W σ ω S H (k b S) Qv := by
  cases d <;> try exact q.elim
  rename_i b
  unfold Rp at r
  exact ⟨b, rfl, r, q⟩
theorem ge_one {op} (h : GE X T W a ta) : GE X T W (.BoolOp op [a] pos) ta := pe_one h
theorem ge_and (ha : GE X T W a ta) (hb : GE X T W (.BoolOp .And (b :: es) pos) tb) : GE X T W (.BoolOp .And (a :: b :: es) pos) (eAnd ta tb) := PE.imp (pe_and ha hb) fun σ H Qv ⟨s, S, ω, rl, rs, q⟩ => by
  refine ⟨s, S, ω, rl, rs, (EPg.bind q).mono ?_⟩
  rintro v H1 ⟨ω1, S1, d, e1, rl1, r1, q1⟩
  obtain ⟨k, rfl, rfl, q2⟩ := asB_bl r1 q1
  refine ⟨k, rfl, ?_⟩
  cases k with
  | true => exact iteT ⟨s, S1, ω1, rl1, rs.ext e1, q2⟩
  | false => exact iteF (q2.now rl1 (by unfold Rp; rfl))
theorem ge_or (ha : GE X T W a ta) (hb : GE X T W (.BoolOp .Or (b :: es) pos) tb) : GE X T W (.BoolOp .Or (a :: b :: es) pos) (eOr ta tb) := PE.imp (pe_or ha hb) fun σ H Qv ⟨s, S, ω, rl, rs, q⟩ => by
  refine ⟨s, S, ω, rl, rs, (EPg.bind q).mono ?_⟩
  rintro v H1 ⟨ω1, S1, d, e1, rl1, r1, q1⟩
  obtain ⟨k, rfl, rfl, q2⟩ := asB_bl r1 q1
  refine ⟨k, rfl, ?_⟩
  cases k with
  | false => exact iteF ⟨s, S1, ω1, rl1, rs.ext e1, q2⟩
  | true => exact iteT (q2.now rl1 (by unfold Rp; rfl))
theorem ge_not (ha : GE X T W a ta) : GE X T W (.UnaryOp .Not a pos) (eNot ta) := PE.imp (pe_not ha) fun σ H Qv ⟨s, S, ω, rl, rs, q⟩ => by
  refine ⟨s, S, ω, rl, rs, (EPg.bind q).mono ?_⟩
  rintro v H1 ⟨ω1, S1, d, e1, rl1, r1, q1⟩
  obtain ⟨k, rfl, rfl, q2⟩ := asB_bl r1 q1
  exact ⟨k, rfl, q2.now rl1 (by unfold Rp; rfl)⟩
theorem gt_val (h : GE X T W a ta) (he : ∀ whole, isTrue a X.env whole = (do let v ← whole; standAt a.pos; holding [v] (truthy v)) := by intro _; rfl) : GT X T W a ta := PT.imp (pt_val h he) fun σ H Qv ⟨s, S, ω, rl, rs, q⟩ => by
  refine ⟨s, S, ω, rl, rs, (EPg.bind q).mono ?_⟩
  rintro v H1 ⟨ω1, S1, d, e1, rl1, r1, q1⟩
  cases d <;> try exact q1.elim
  rename_i k
  unfold Rp at r1
  exact ⟨k, r1, q1.now rl1 rfl⟩
theorem tTest_ok {X : Cx} {T : Tx} {W : WX} {t : Q.TE} {tv : L2.TE} (hv : ∀ σ H Qv, tEr X.K T W t σ H Qv → tv σ H Qv) (σ : L2.St) (H : Hp) (Qv : Bool → Hp → Prop) (h : tTr X.K T W t σ H Qv) : tTest tv σ H Qv := by
  obtain ⟨s, S, ω, rl, rs, q⟩ := h
  refine hv _ _ _ ⟨s, S, ω, rl, rs, (EPg.bind q).mono ?_⟩
  rintro v H1 ⟨ω1, S1, d, e1, rl1, r1, q1⟩
  cases d <;> try exact q1.elim
  rename_i k
  unfold Rp at r1
  exact ⟨k, r1, q1.now rl1 rfl⟩
theorem gt_cmp {op : CmpOp} {r : R2} {f : Op2} (ho : OpR X (compareOp op) r) (hf : Ok2 X.K T r f) (ha : GE X T W a ta) (hb : GE X T W b tb) (hm : behindInMarks op b = false) : GT X T W (.Compare a [op] [b] pos) (e2 f ta tb) :=
  PT.imp (pt_cmpR ho ha hb hm) (tTest_ok (tOp_ok hf))
theorem gt_isN {j pos'} (ha : GE X T W a ta) : GT X T W (.Compare a [.Is] [.Constant .none j pos'] pos) (e1 oIsN ta) := PT.imp (pt_cmp (pc_isN ha)) (by
  refine tTest_ok (X := X) (T := T) (W := W) (tv := tIsN (tEr X.K T W ta)) fun σ H Qv ⟨s, S, ω, rl, rs, q⟩ => ?_
  refine ⟨s, S, ω, rl, rs, (EPg.bind q).mono ?_⟩
  rintro v H1 ⟨ω1, S1, d, e1, rl1, r1, q1⟩
  refine (PQ.of q1).now rl1 ?_
  cases d <;> unfold Rp at r1 <;> unfold Rp <;> first | (subst r1; rfl) | (obtain ⟨rfl, _, _, _, _, _⟩ := r1; rfl) | (obtain ⟨_, _, rfl, _⟩ := r1; rfl) | (obtain ⟨_, rfl⟩ := r1; rfl) | (obtain ⟨_, _, _, rfl, _⟩ := r1; rfl) | (obtain ⟨_, rfl, _⟩ := r1; rfl))
theorem gt_notN {j pos'} (ha : GE X T W a ta) : GT X T W (.Compare a [.IsNot] [.Constant .none j pos'] pos) (e1 oNotN ta) := PT.imp (pt_cmp (pc_notN ha)) (by
  refine tTest_ok (X := X) (T := T) (W := W) (tv := tNotN (tEr X.K T W ta)) fun σ H Qv ⟨s, S, ω, rl, rs, q⟩ => ?_
  refine ⟨s, S, ω, rl, rs, (EPg.bind q).mono ?_⟩
  rintro v H1 ⟨ω1, S1, d, e1, rl1, r1, q1⟩
  refine (PQ.of q1).now rl1 ?_
  cases d <;> unfold Rp at r1 <;> unfold Rp <;> first | (subst r1; rfl) | (obtain ⟨rfl, _, _, _, _, _⟩ := r1; rfl) | (obtain ⟨_, _, rfl, _⟩ := r1; rfl) | (obtain ⟨_, rfl⟩ := r1; rfl) | (obtain ⟨_, _, _, rfl, _⟩ := r1; rfl) | (obtain ⟨_, rfl, _⟩ := r1; rfl))
theorem gt_chain {op op' : CmpOp} {r r' : R2} {f g : Op2} (ho : OpR X (compareOp op) r) (ho' : OpR X (compareOp op') r') (hf : Ok2 X.K T r f) (hg : Ok2 X.K T r' g) (ha : GE X T W a ta) (hb : GE X T W b tb) (hc : GE X T W c tc)
    (h : PT X (.Compare a [op, op'] [b, c] pos) (tTest (tChain r r' (tEr X.K T W ta) (tEr X.K T W tb) (tEr X.K T W tc)))) : GT X T W (.Compare a [op, op'] [b, c] pos) (eChain f g ta tb tc) := PT.imp h (tTest_ok (X := X) (T := T) (W := W) fun σ H Qv ⟨s, S, ω, rl, rs, q⟩ => by
  refine ⟨s, S, ω, rl, rs, (EPg.bind q).mono ?_⟩
  rintro v H1 ⟨ω1, S1, d, e1, rl1, r1, q1⟩
  refine ⟨s, S1, ω1, rl1, rs.ext e1, (EPg.bind q1).mono ?_⟩
  rintro u H2 ⟨ω2, S2, d2, e2, rl2, r2, q2⟩
  refine hf ω2 S2 H2 d d2 v u _ rl2 (r1.ext e2) r2 (PQ.of (X := X) (T := T) (W := W) (σ := σ) ((EPg.bind q2).mono ?_))
  rintro z H3 ⟨ω3, S3, d3, e3, rl3, r3, q3⟩
  cases d3 <;> try exact q3.elim
  rename_i k
  unfold Rp at r3
  refine ⟨k, r3, ?_⟩
  cases k with
  | false => exact iteF (q3.now rl3 (by unfold Rp; rfl))
  | true =>
    refine iteT ?_
    have e23 := e2.trans e3
    refine ⟨s, S3, ω3, rl3, (rs.ext e1).ext e23, (EPg.bind q3).mono ?_⟩
    rintro y H4 ⟨ω4, S4, d4, e4, rl4, r4, q4⟩
    exact hg _ _ _ _ _ _ _ _ rl4 ((r2.ext e3).ext e4) r4 (PQ.of q4))
theorem GW.gt (h : GW X T W a ta) : GT X T W a ta := PW.pt h
theorem bool_bind {R : Wd → D → Bool → Prop} {σ : L2.St} {ω : Wd} {S : Store} {H : Hp} {r : Res D} {k : Bool → Store → Res D} {Qv : Bool → Hp → Prop} (h : EPg X.K T Rb W σ ω S H (asBool (r.bind fun x S1 => asB x S1 k)) Qv) :
    EPg X.K T Rb W σ ω S H (asBool r) (fun c H1 => ∃ ω1 S1, Ext ω S H ω1 S1 H1 ∧ Rl X.K T.toTb ω1 S1 H1 ∧ EPg X.K T Rb W σ ω1 S1 H1 (asBool (k c S1)) Qv) := by
  cases r with
  | ok d S' =>
    cases d <;> try exact h
    rename_i b
    intro ω' H' c e rl r
    cases r
    exact ⟨ω', S', e, rl, EPg.shift e h⟩
  | ex q S' => exact h
  | err => exact h
theorem gw_and1 (ha : GT X T W a ta) : GW X T W (.BoolOp .And [a] pos) ta := pw_and1 ha
theorem gw_or1 (ha : GT X T W a ta) : GW X T W (.BoolOp .Or [a] pos) ta := pw_or1 ha
theorem gw_and (ha : GT X T W a ta) (hb : GW X T W (.BoolOp .And (b :: es) pos) tb) : GW X T W (.BoolOp .And (a :: b :: es) pos) (eAnd ta tb) := PW.imp (pw_and ha hb) fun σ H Qv ⟨s, S, ω, rl, rs, q⟩ => by
  refine ⟨s, S, ω, rl, rs, (bool_bind (R := Rb) q).mono ?_⟩
  rintro k H1 ⟨ω1, S1, e1, rl1, q1⟩
  cases k with
  | true => exact iteT ⟨s, S1, ω1, rl1, rs.ext e1, q1⟩
  | false => exact iteF (q1.now rl1 rfl)
theorem gw_or (ha : GT X T W a ta) (hb : GW X T W (.BoolOp .Or (b :: es) pos) tb) : GW X T W (.BoolOp .Or (a :: b :: es) pos) (eOr ta tb) := PW.imp (pw_or ha hb) fun σ H Qv ⟨s, S, ω, rl, rs, q⟩ => by
  refine ⟨s, S, ω, rl, rs, (bool_bind (R := Rb) q).mono ?_⟩
  rintro k H1 ⟨ω1, S1, e1, rl1, q1⟩
  cases k with
  | false => exact iteF ⟨s, S1, ω1, rl1, rs.ext e1, q1⟩
  | true => exact iteT (q1.now rl1 rfl)
theorem gt_not (ha : GT X T W a ta) : GT X T W (.UnaryOp .Not a pos) (eNot ta) := PT.imp (pt_not ha) fun σ H Qv ⟨s, S, ω, rl, rs, q⟩ => by
  refine ⟨s, S, ω, rl, rs, (bool_bind (R := Rb) q).mono ?_⟩
  rintro k H1 ⟨ω1, S1, e1, rl1, q1⟩
  exact q1.now rl1 rfl
theorem ge_if (hc : GT X T W c tc) (ha : GE X T W a ta) (hb : GE X T W b tb) : GE X T W (.IfExp c a b pos) (eIf tc ta tb) := PE.imp (pe_ifExp hc ha hb) fun σ H Qv ⟨s, S, ω, rl, rs, q⟩ => by
  refine ⟨s, S, ω, rl, rs, ?_⟩
  unfold eIf at q
  cases e0 : tc s S with
  | ok d S' =>
    rw [e0] at q
    cases d <;> try exact q.elim
    rename_i k
    intro ω' H' c e rl r
    cases r
    have q2 := EPg.shift e q
    cases k with
    | true => exact iteT ⟨s, S', ω', rl, rs.ext e, q2⟩
    | false => exact iteF ⟨s, S', ω', rl, rs.ext e, q2⟩
  | ex x S' => rw [e0] at q; exact q
  | err => rw [e0] at q; exact q
theorem Rl0.laid {K : PySem.W.Frag} {ω : Wd} {S : Store} {H : Hp} {p : Addr} (rl : Rl0 K T.toTb ω S H) (hp : H p = none) (o : HO) (ho : ∀ ps, o ≠ .tbl ps := by intro ps z; cases z) (hlm : ∀ I, T.toTb.lam = some I → ∀ c, o ≠ LamO I p c := by intro I z0 c z; unfold LamO at z; cases z) :
    ∃ ω', Ext ω S H ω' S (upd H p o) ∧ Rl0 K T.toTb ω' S (upd H p o) ∧ ω'.F p = some o := by
  have hF : ω.F p = none := rl.sub.free hp
  have fx : Same ω.F (upd ω.F p o) := fun b q h => by rw [upd_ne (ne_of_none h hF)]; exact h
  refine ⟨⟨upd ω.F p o, ω.al, ω.n, ω.ao, ω.m⟩, ⟨fx, fun _ _ => rfl, Nat.le_refl _, fun _ _ => rfl, Nat.le_refl _, fun _ es _ h => ⟨es, h⟩, fun b q h _ n => ⟨?_, ?_⟩⟩, ⟨fun b q h => ?_, rl.len, fun k ds h => ?_, rl.inj, rl.lenO, fun k v h => ?_, rl.injO, fun b ps h => ?_, ⟨tabs_put rl.tab.1 (.inl hp), lamcs_put (lamcs_F rl.tab.2 hlm) (.inl hp)⟩⟩, upd_same⟩
  · rw [upd_ne (ne_of_none h hp)]; exact h
  · rintro (⟨q', h'⟩ | h' | h')
    · have h'' : upd ω.F p o b = some q' := h'
      rw [upd_ne (ne_of_none h hp)] at h''
      exact n (.inl ⟨q', h''⟩)
    · exact n (.inr (.inl h'))
    · exact n (.inr (.inr h'))
  · have h' : upd ω.F p o b = some q := h
    by_cases hb : b = p
    · subst hb; rw [upd_same] at h' ⊢; exact h'
    · rw [upd_ne hb] at h' ⊢; exact rl.sub _ _ h'
  · obtain ⟨h1, h2, vs, h3, h4⟩ := rl.obj k ds h
    have ne : ω.al k ≠ p := ne_of_none h3 hp
    exact ⟨by show upd ω.F p o (ω.al k) = none; rw [upd_ne ne]; exact h1, h2, vs, by show upd H p o (ω.al k) = _; rw [upd_ne ne]; exact h3, Rps.mono (ω := ω) (ω' := ⟨upd ω.F p o, ω.al, ω.n, ω.ao, ω.m⟩) fx (fun _ _ => rfl) (Nat.le_refl _) (fun _ _ => rfl) (Nat.le_refl _) _ _ h4⟩
  · obtain ⟨h1, h2, o2, h3, h4⟩ := rl.objO k v h
    have ne : ω.ao k ≠ p := ne_of_none h3 hp
    exact ⟨by show upd ω.F p o (ω.ao k) = none; rw [upd_ne ne]; exact h1, h2, o2, by show upd H p o (ω.ao k) = _; rw [upd_ne ne]; exact h3, Lvr.mono (ω := ω) (ω' := ⟨upd ω.F p o, ω.al, ω.n, ω.ao, ω.m⟩) fx (fun _ _ => rfl) (Nat.le_refl _) (fun _ _ => rfl) (Nat.le_refl _) h4⟩
  · have h' : upd ω.F p o b = some (.tbl ps) := h
    by_cases hb : b = p
    · rw [hb, upd_same] at h'; exact ho ps (Option.some.inj h')
    · rw [upd_ne hb] at h'; exact rl.nt b ps h'
theorem Rl.laid {K : PySem.W.Frag} {ω : Wd} {S : Store} {H : Hp} {p : Addr} (rl : Rl K T.toTb ω S H) (hp : H p = none) (o : HO) (ho : ∀ ps, o ≠ .tbl ps := by intro ps z; cases z) (hlm : ∀ I, T.toTb.lam = some I → ∀ c, o ≠ LamO I p c := by intro I z0 c z; unfold LamO at z; cases z) :
    ∃ ω', Ext ω S H ω' S (upd H p o) ∧ Rl K T.toTb ω' S (upd H p o) ∧ ω'.F p = some o :=
  let ⟨ω', e, r, h⟩ := rl.toRl0.laid hp o ho hlm
  ⟨ω', e, ⟨r, pin_ext rl e r.sub⟩, h⟩
theorem Rl0.newL {K : PySem.W.Frag} {ω : Wd} {S : Store} {H : Hp} {p : Addr} {ds : List D} {vs : List V} (rl : Rl0 K T.toTb ω S H) (hp : H p = none) (hf : flats ds = true) (r : Rps K T.toTb ω ds vs) :
    ∃ ω', Ext ω S H ω' (S.new ds) (upd H p (.lst vs)) ∧ Rl0 K T.toTb ω' (S.new ds) (upd H p (.lst vs)) ∧ Rp K T.toTb ω' (.ptr S.L.length) (.ref p) := by
  have hF : ω.F p = none := rl.sub.free hp
  have al : ∀ k, k < ω.n → (if k = ω.n then p else ω.al k) = ω.al k := fun k hk => if_neg (Nat.ne_of_lt hk)
  have gl : ∀ {k es}, (S.new ds).get k = some es → (k < ω.n ∧ S.get k = some es) ∨ (k = ω.n ∧ es = ds) := fun {k es} h => by
    unfold Store.get Store.new at h
    simp only at h
    by_cases hk : k < S.L.length
    · rw [List.getElem?_append_left hk] at h
      exact .inl ⟨rl.len ▸ hk, h⟩
    · by_cases hk2 : k = S.L.length
      · subst hk2
        simp at h
        exact .inr ⟨rl.len, h.symm⟩
      · rw [List.getElem?_eq_none (by simp; omega)] at h
        cases h
  have hne : ∀ {k es}, S.get k = some es → ω.al k ≠ p := fun {k es} h => by
    obtain ⟨_, _, _, h3, _⟩ := rl.obj k es h
    exact ne_of_none h3 hp
  have mn : ∀ {es us}, Rps K T.toTb ω es us → Rps K T.toTb ⟨ω.F, fun k => if k = ω.n then p else ω.al k, ω.n + 1, ω.ao, ω.m⟩ es us := fun {es us} h => Rps.mono (ω := ω) (ω' := ⟨ω.F, fun k => if k = ω.n then p else ω.al k, ω.n + 1, ω.ao, ω.m⟩) (fun _ _ h => h) al (Nat.le_succ _) (fun _ _ => rfl) (Nat.le_refl _) _ _ h
  have own : ∀ b, Own ⟨ω.F, fun k => if k = ω.n then p else ω.al k, ω.n + 1, ω.ao, ω.m⟩ (S.new ds) b → b ≠ p → Own ω S b := fun b h hb => by
    rcases h with h | ⟨k, es, h, e⟩ | h
    · exact .inl h
    · rcases gl h with ⟨hk, h'⟩ | ⟨hk, _⟩
      · exact .inr (.inl ⟨k, es, h', (al k hk).symm.trans e⟩)
      · subst hk
        have e' : (if ω.n = ω.n then p else ω.al ω.n) = b := e
        rw [if_pos rfl] at e'
        exact absurd e'.symm hb
    · exact .inr (.inr h)
  refine ⟨⟨ω.F, fun k => if k = ω.n then p else ω.al k, ω.n + 1, ω.ao, ω.m⟩, ⟨fun _ _ h => h, al, Nat.le_succ _, fun _ _ => rfl, Nat.le_refl _, fun k es hk h => ⟨es, (gl h).elim (fun z => z.2) fun z => absurd z.1 (Nat.ne_of_lt hk)⟩, fun b q h _ n => ?_⟩, ⟨fun b q h => ?_, ?_, fun k es h => ?_, fun j k es fs h1 h2 e => ?_, rl.lenO, fun k v h => ?_, rl.injO, rl.nt, ⟨tabs_put rl.tab.1 (.inl hp), lamcs_put rl.tab.2 (.inl hp)⟩⟩, ?_⟩
  · have hb := ne_of_none h hp
    exact ⟨by rw [upd_ne hb]; exact h, fun z => n (own b z hb)⟩
  · rw [upd_ne (ne_of_none h hF)]; exact rl.sub _ _ h
  · show (S.L ++ [some ds]).length = ω.n + 1
    rw [List.length_append, rl.len]; rfl
  · rcases gl h with ⟨hk, h'⟩ | ⟨hk, e⟩
    · obtain ⟨h1, h2, us, h3, h4⟩ := rl.obj k es h'
      refine ⟨?_, h2, us, ?_, mn h4⟩
      · show ω.F (if k = ω.n then p else ω.al k) = none
        rw [al k hk]; exact h1
      · show upd H p _ (if k = ω.n then p else ω.al k) = _
        rw [al k hk, upd_ne (hne h')]; exact h3
    · subst e
      refine ⟨?_, hf, vs, ?_, mn r⟩
      · show ω.F (if k = ω.n then p else ω.al k) = none
        rw [if_pos hk]; exact hF
      · show upd H p _ (if k = ω.n then p else ω.al k) = _
        rw [if_pos hk, upd_same]
  · have e' : (if j = ω.n then p else ω.al j) = (if k = ω.n then p else ω.al k) := e
    rcases gl h1 with ⟨hj, h1'⟩ | ⟨hj, _⟩ <;> rcases gl h2 with ⟨hk, h2'⟩ | ⟨hk, _⟩
    · rw [al j hj, al k hk] at e'
      exact rl.inj j k _ _ h1' h2' e'
    · rw [al j hj, if_pos hk] at e'
      exact absurd e' (hne h1')
    · rw [al k hk, if_pos hj] at e'
      exact absurd e'.symm (hne h2')
    · rw [hj, hk]
  · obtain ⟨h1, h2, o2, h3, h4⟩ := rl.objO k v h
    have ne : ω.ao k ≠ p := ne_of_none h3 hp
    exact ⟨h1, h2, o2, by rw [upd_ne ne]; exact h3, Lvr.mono (ω := ω) (ω' := ⟨ω.F, fun k => if k = ω.n then p else ω.al k, ω.n + 1, ω.ao, ω.m⟩) (fun _ _ h => h) al (Nat.le_succ _) (fun _ _ => rfl) (Nat.le_refl _) h4⟩
  · unfold Rp
    rw [rl.len]
    exact ⟨Nat.lt_succ_self _, by show _ = V.ref (if ω.n = ω.n then p else ω.al ω.n); rw [if_pos rfl]⟩
theorem Rl.newL {K : PySem.W.Frag} {ω : Wd} {S : Store} {H : Hp} {p : Addr} {ds : List D} {vs : List V} (rl : Rl K T.toTb ω S H) (hp : H p = none) (hf : flats ds = true) (r : Rps K T.toTb ω ds vs) :
    ∃ ω', Ext ω S H ω' (S.new ds) (upd H p (.lst vs)) ∧ Rl K T.toTb ω' (S.new ds) (upd H p (.lst vs)) ∧ Rp K T.toTb ω' (.ptr S.L.length) (.ref p) :=
  let ⟨ω', e, x, h⟩ := rl.toRl0.newL hp hf r
  ⟨ω', e, ⟨x, pin_ext rl e x.sub⟩, h⟩
theorem ge_tup {x1} {k : Nat} (hn : es.length = k := by rfl) (hk : k ≤ 1000 := by decide) (h : GA X T W es ts) (hl : ts.length = k := by rfl) : GE X T W (.Tuple es x1 pos) (eTup ts) := PE.imp (pe_tup h) fun σ H Qv ⟨s, S, ω, rl, rs, q⟩ => by
  refine ⟨s, S, ω, rl, rs, ?_⟩
  have hlen : ∀ {us : List Q.TE} {S : Store} {ds : List D} {S1 : Store}, eArgs us s S = .ok ds S1 → ds.length = us.length := by
    intro us
    induction us with
    | nil => intro S ds S1 e; cases e; rfl
    | cons a as ih =>
      intro S ds S1 e
      unfold eArgs at e
      cases e0 : a s S with
      | ok d S2 =>
        rw [e0] at e
        simp only [Res.bind] at e
        cases e3 : eArgs as s S2 with
        | ok es S3 =>
          rw [e3] at e
          simp only [Res.ok.injEq] at e
          rw [← e.1, List.length_cons, ih e3]; rfl
        | ex x S3 => rw [e3] at e; cases e
        | err => rw [e3] at e; cases e
      | ex x S2 => rw [e0] at e; cases e
      | err => rw [e0] at e; cases e
  unfold eTup at q
  cases e0 : eArgs ts s S with
  | ok ds S' =>
    rw [e0] at q
    intro ω' H' vs e rl' r
    have hd := hlen e0
    refine ⟨by rw [← r.length, hd, hl]; exact Nat.le_trans hk (by rw [sizeLine_eq]; decide), fun p hp => ?_⟩
    obtain ⟨ω2, e2, rl2, hF⟩ := Rl.laid rl' hp (.tup vs)
    exact q ω2 _ _ (e.trans e2) rl2 (by unfold Rp; exact ⟨p, vs, rfl, SqT.of hF, r.ext e2⟩)
  | ex x S' => rw [e0] at q; exact q
  | err => rw [e0] at q; exact q
end
end Q
set_option maxHeartbeats 1000000
namespace Q
open PySem PySem.Spec PyProof.Rows L2
section
variable {K : PySem.W.Frag} {T : Tb} {ω : Wd} {S : Store} {H : Hp}
theorem Rp.int {i : Int} {v : V} (h : Rp K T ω (.int i) v) : v = .int i := by unfold Rp at h; exact h
theorem Rp.str {i : Str} {v : V} (h : Rp K T ω (.str i) v) : v = .str i := by unfold Rp at h; exact h
theorem Rp.bl {i : Bool} {v : V} (h : Rp K T ω (.bl i) v) : v = .bl i := by unfold Rp at h; exact h
theorem Rp.non {v : V} (h : Rp K T ω .non v) : v = .non := by unfold Rp at h; exact h
theorem Rp.mint (i : Int) : Rp K T ω (.int i) (.int i) := by unfold Rp; rfl
theorem Rp.mstr (i : Str) : Rp K T ω (.str i) (.str i) := by unfold Rp; rfl
theorem Rp.mbl (i : Bool) : Rp K T ω (.bl i) (.bl i) := by unfold Rp; rfl
theorem Rp.mnon : Rp K T ω .non .non := by unfold Rp; rfl
theorem Rp.mlst {ds : List D} {vs : List V} {a : Addr} (h : ω.F a = some (.lst vs)) (r : Rps K T ω ds vs) : Rp K T ω (.lst ds) (.ref a) := by unfold Rp; exact ⟨a, vs, rfl, h, r⟩
theorem Rp.mtup {ds : List D} {vs : List V} {a : Addr} (h : SqT K ω.F a vs) (r : Rps K T ω ds vs) : Rp K T ω (.tup ds) (.ref a) := by unfold Rp; exact ⟨a, vs, rfl, h, r⟩
theorem Rp.lst (rl : Rl K T ω S H) {ds : List D} {v : V} (h : Rp K T ω (.lst ds) v) : ∃ a vs, v = .ref a ∧ H a = some (.lst vs) ∧ Rps K T ω ds vs := by
  unfold Rp at h
  obtain ⟨a, vs, e, q, r⟩ := h
  exact ⟨a, vs, e, rl.sub _ _ q, r⟩
theorem Rp.tup (rl : Rl K T ω S H) {ds : List D} {v : V} (h : Rp K T ω (.tup ds) v) : ∃ a vs, v = .ref a ∧ SqT K H a vs ∧ Rps K T ω ds vs := by
  unfold Rp at h
  obtain ⟨a, vs, e, q, r⟩ := h
  exact ⟨a, vs, e, Same.seqT rl.sub q, r⟩
theorem Rp.ptr (rl : Rl K T ω S H) {k : Nat} {ds : List D} {v : V} (h : Rp K T ω (.ptr k) v) (g : S.get k = some ds) : ∃ a vs, v = .ref a ∧ a = ω.al k ∧ H a = some (.lst vs) ∧ Rps K T ω ds vs := by
  unfold Rp at h
  obtain ⟨_, _, vs, h3, h4⟩ := rl.obj k ds g
  exact ⟨_, vs, h.2, rfl, h3, h4⟩
theorem Rp.src (rl : Rl K T ω S H) {ns : List Int} {v : V} (h : Rp K T ω (.src ns) v) : ∃ a, v = .ref a ∧ SqL K H a (ns.map V.int) := by
  unfold Rp at h
  obtain ⟨a, e, q⟩ := h
  exact ⟨a, e, Same.seq rl.sub q⟩
theorem Rp.itemsL (rl : Rl K T ω S H) {d : D} {ds : List D} {v : V} (h : Rp K T ω d v) (g : itemsL S d = some ds) : ∃ a vs, v = .ref a ∧ H a = some (.lst vs) ∧ Rps K T ω ds vs := by
  cases d <;> try (cases g; done)
  · cases g
    exact Rp.lst rl h
  · obtain ⟨a, vs, e, _, q, r⟩ := Rp.ptr rl h g
    exact ⟨a, vs, e, q, r⟩
theorem Rp.itemsLT (rl : Rl K T ω S H) {d : D} {ds : List D} {v : V} (h : Rp K T ω d v) (g : itemsLT S d = some ds) : ∃ a vs, v = .ref a ∧ (SqL K H a vs ∨ SqT K H a vs) ∧ Rps K T ω ds vs := by
  cases d with
  | tup xs =>
    cases g
    obtain ⟨a, vs, e, q, r⟩ := Rp.tup rl h
    exact ⟨a, vs, e, .inr q, r⟩
  | lst xs => obtain ⟨a, vs, e, q, r⟩ := Rp.itemsL rl h g; exact ⟨a, vs, e, .inl (SqL.of q), r⟩
  | ptr k => obtain ⟨a, vs, e, q, r⟩ := Rp.itemsL rl h g; exact ⟨a, vs, e, .inl (SqL.of q), r⟩
  | _ => cases g
end
section
variable {X : Cx} {T : Tx} {W : WX} {a b c e : Expr} {es : List Expr} {ta tb tc : Q.TE} {ts : List Q.TE} {pos : Pos}
theorem PQ.newLst {K : PySem.W.Frag} {ω : Wd} {S : Store} {H : Hp} {ds : List D} {vs : List V} {Qv : VK} (h : PQ K T ω S H (some (.lst ds, S)) Qv) (rl : Rl K T.toTb ω S H) (r : Rps K T.toTb ω ds vs) : ∀ p, H p = none → Qv (.ref p) (upd H p (.lst vs)) := fun p hp => by
  obtain ⟨ω2, e2, rl2, hF⟩ := Rl.laid rl hp (.lst vs)
  exact h ω2 _ _ e2 rl2 (Rp.mlst hF (r.ext e2))
theorem PQ.newTup {K : PySem.W.Frag} {ω : Wd} {S : Store} {H : Hp} {ds : List D} {vs : List V} {Qv : VK} (h : PQ K T ω S H (some (.tup ds, S)) Qv) (rl : Rl K T.toTb ω S H) (r : Rps K T.toTb ω ds vs) : ∀ p, H p = none → Qv (.ref p) (upd H p (.tup vs)) := fun p hp => by
  obtain ⟨ω2, e2, rl2, hF⟩ := Rl.laid rl hp (.tup vs)
  exact h ω2 _ _ e2 rl2 (Rp.mtup (SqT.of hF) (r.ext e2))
def rAddA (K : PySem.W.Frag) : R2 := fun x y H Qv => rI0 (fun i j => .int (i + j)) x y H Qv ∨ (∃ i j, x = .str i ∧ y = .str j ∧ i.length + j.length ≤ sizeLine ∧ Qv (.str (i ++ j)) H) ∨ rCat x y H Qv ∨ rCatA K x y H Qv
theorem or_add : OpR X (binaryOp .Add) (rAddA X.K) := op_add.or (op_add_str.or (op_cat.or op_catA))
theorem ok_add {K : PySem.W.Frag} : Ok2 K T (rAddA K) oAdd := by
  intro ω S H x y u v Qv rl rx ry q
  unfold oAdd at q
  split at q
  · rw [rx.int, ry.int]
    exact .inl ⟨_, _, rfl, rfl, q.now rl (Rp.mint _)⟩
  · split at q
    · rw [rx.str, ry.str]
      exact .inr (.inl ⟨_, _, rfl, rfl, ‹_›, q.now rl (Rp.mstr _)⟩)
    · exact q.elim
  · split at q
    · obtain ⟨p1, vs, rfl, h1, r1⟩ := Rp.lst rl rx
      obtain ⟨p2, ws, rfl, h2, r2⟩ := Rp.lst rl ry
      exact .inr (.inr (.inl ⟨_, _, _, _, rfl, rfl, h1, h2, by rw [← r1.length, ← r2.length]; assumption, q.newLst rl (r1.append r2)⟩))
    · exact q.elim
  · split at q
    · split at q
      · obtain ⟨p1, vs, rfl, _, h1, r1⟩ := Rp.ptr rl rx ‹_›
        obtain ⟨p2, ws, rfl, h2, r2⟩ := Rp.lst rl ry
        exact .inr (.inr (.inl ⟨_, _, _, _, rfl, rfl, h1, h2, by rw [← r1.length, ← r2.length]; assumption, q.newLst rl (r1.append r2)⟩))
      · exact q.elim
    · exact q.elim
  · rename_i xs ys
    split at q
    · unfold Rp at rx ry
      obtain ⟨p1, vs, rfl, h1, r1⟩ := rx
      obtain ⟨p2, ws, rfl, h2, r2⟩ := ry
      have k1 := Same.seqT rl.sub h1
      have k2 := Same.seqT rl.sub h2
      have e1 : vs = [] → xs = [] := fun z => List.eq_nil_of_length_eq_zero (by rw [r1.length, z]; rfl)
      have e2 : ws = [] → ys = [] := fun z => List.eq_nil_of_length_eq_zero (by rw [r2.length, z]; rfl)
      refine .inr (.inr (.inr ⟨_, _, _, _, rfl, rfl, k1, k2, by rw [← r1.length, ← r2.length]; assumption, fun z => ?_, fun _ z => ?_, fun _ _ => q.newTup rl (r1.append r2)⟩))
      · rw [e1 z] at q
        exact q.now rl (Rp.mtup h2 r2)
      · rw [e2 z, List.append_nil] at q
        exact q.now rl (Rp.mtup h1 r1)
    · exact q.elim
  · exact q.elim
theorem ok_sub {K : PySem.W.Frag} : Ok2 K T (rI0 fun i j => .int (i - j)) oSub := by
  intro ω S H x y u v Qv rl rx ry q
  unfold oSub at q
  split at q
  · rw [rx.int, ry.int]
    exact ⟨_, _, rfl, rfl, q.now rl (Rp.mint _)⟩
  · exact q.elim
def repS (z : Str) (n : Nat) : Str := ⟨((List.replicate n z.cps.toList).flatten).toArray⟩
theorem repS_len (z : Str) (n : Nat) : (repS z n).length = z.length * n := by
  unfold repS Str.length
  simp [Nat.mul_comm]
theorem foldl_app : ∀ (l : List (Array Nat)) (acc : Array Nat), (l.foldl (· ++ ·) acc).toList = acc.toList ++ (l.map (·.toList)).flatten
  | [], acc => by simp
  | a :: l, acc => by
    rw [List.foldl_cons, foldl_app l (acc ++ a)]
    simp
def rRepS : R2 := fun x y H Q => ∃ (z : Str) (j : Int), x = .str z ∧ y = .int j ∧ 0 ≤ j ∧ j ≤ 100000 ∧ z.length ≤ 10000 ∧ z.length * j.toNat ≤ sizeLine ∧ Q (.str (repS z j.toNat)) H
theorem op_repS : OpR X (binaryOp .Mult) rRepS := by
  intro pins s σ H x y v u Q I rx ry h
  obtain ⟨z, j, rfl, rfl, h0, h1, h2, h3, q⟩ := h
  obtain ⟨t, rfl⟩ := rx
  obtain ⟨t', rfl⟩ := ry
  refine PySem.P.mul_str ?_ (fun hn _ => ?_) (fun _ _ => ?_) ?_
  · have e1 : ¬ j < -(2 ^ 63 : Int) := by omega
    have e2 : ¬ j ≥ 2 ^ 63 := by omega
    rw [decide_eq_false e1, decide_eq_false e2]; rfl
  · have : (10000 : Int) ≤ (2 ^ 63 - 1) / j := (Int.le_ediv_iff_mul_le (by omega)).mpr (by omega)
    omega
  · unfold PySem.Builtin.Str.tooLong
    exact decide_eq_false (by omega)
  · have lz : (repS z j.toNat).length ≤ sizeLine := by rw [repS_len]; exact h3
    split
    · rename_i hj
      have e : j.toNat = 0 := by omega
      have e2 : repS z j.toNat = Str.empty := by rw [e]; rfl
      rw [e2] at q
      exact ⟨by decide, .str _, H, I.tok _, ⟨_, rfl⟩, q⟩
    · split
      · rename_i hj hk
        have e2 : repS z j.toNat = z := by
          rw [Bool.or_eq_true, beq_iff_eq, beq_iff_eq] at hk
          rcases hk with hk | hk
          · rw [hk]; unfold repS; simp
          · have : z.cps.toList = [] := List.eq_nil_of_length_eq_zero (by simpa [Str.length] using hk)
            unfold repS
            rw [this]
            cases z with
            | mk a =>
              simp at this
              subst this
              simp
        rw [e2] at q
        exact ⟨.str z, H, I, ⟨t, rfl⟩, q⟩
      · have e2 : (⟨(List.replicate j.toNat z.cps).foldl (· ++ ·) #[]⟩ : Str) = repS z j.toNat := by
          unfold repS
          congr 1
          apply Array.toList_inj.mp
          rw [foldl_app]
          simp
        rw [e2]
        exact ⟨lz, .str _, H, I.tok _, ⟨_, rfl⟩, q⟩
def rMulA (K : PySem.W.Frag) : R2 := fun x y H Qv => rI CMul (fun i j => .int (i * j)) x y H Qv ∨ rI CMulW (fun i j => .int (i * j)) x y H Qv ∨ rRep x y H Qv ∨ rRepS x y H Qv ∨ rRepT K x y H Qv
theorem or_mul : OpR X (binaryOp .Mult) (rMulA X.K) := op_mul.or (op_mulW.or (op_rep.or (op_repS.or op_repT)))
theorem Rps.repl {K : PySem.W.Frag} {T : Tb} {ω : Wd} {ds : List D} {vs : List V} (r : Rps K T ω ds vs) : ∀ n : Nat, Rps K T ω (List.replicate n ds).flatten (List.replicate n vs).flatten
  | 0 => Rps.nil
  | n + 1 => by
    rw [List.replicate_succ, List.replicate_succ, List.flatten_cons, List.flatten_cons]
    exact r.append (Rps.repl r n)
theorem ok_mul {K : PySem.W.Frag} : Ok2 K T (rMulA K) oMulL := by
  intro ω S H x y u v Qv rl rx ry q
  unfold oMulL at q
  split at q
  · rw [rx.int, ry.int]
    split at q
    · rename_i h
      simp only [smallI, midI, Bool.or_eq_true, Bool.and_eq_true, decide_eq_true_eq] at h
      rcases h with (h | h) | h
      · exact .inl ⟨_, _, rfl, rfl, .inl h, q.now rl (Rp.mint _)⟩
      · exact .inl ⟨_, _, rfl, rfl, .inr h, q.now rl (Rp.mint _)⟩
      · exact .inr (.inl ⟨_, _, rfl, rfl, by unfold CMulW; omega, q.now rl (Rp.mint _)⟩)
    · exact q.elim
  · split at q
    · rename_i h
      simp only [Bool.and_eq_true, decide_eq_true_eq] at h
      obtain ⟨p1, vs, rfl, h1, r1⟩ := Rp.lst rl rx
      rw [ry.int]
      exact .inr (.inr (.inl ⟨_, _, _, rfl, rfl, h1, h.1.1, h.1.2, by rw [← r1.length]; exact h.2, q.newLst rl (r1.repl _)⟩))
    · exact q.elim
  · split at q
    · rename_i h
      simp only [Bool.and_eq_true, decide_eq_true_eq] at h
      rw [rx.str, ry.int]
      exact .inr (.inr (.inr (.inl ⟨_, _, rfl, rfl, h.1.1.1, h.1.1.2, h.1.2, h.2, q.now rl (Rp.mstr _)⟩)))
    · exact q.elim
  · split at q
    · rename_i h
      simp only [decide_eq_true_eq] at h
      obtain ⟨p1, vs, rfl, h1, r1⟩ := Rp.tup rl rx
      rw [ry.int]
      exact .inr (.inr (.inr (.inr ⟨_, _, _, rfl, rfl, h1, fun z => h.1 (List.eq_nil_of_length_eq_zero (by rw [r1.length, z]; rfl)), h.2.1, h.2.2.1, by rw [← r1.length]; exact h.2.2.2, q.newTup rl (r1.repl _)⟩)))
    · exact q.elim
  · exact q.elim
def rDivA : R2 := fun x y H Qv => rI CDivN (fun i j => .int (i.fdiv j)) x y H Qv ∨ rI CDivW (fun i j => .int (i / j)) x y H Qv
theorem or_div : OpR X (binaryOp .FloorDiv) rDivA := op_fdivN.or op_fdivW
theorem ok_div {K : PySem.W.Frag} : Ok2 K T rDivA oDiv := by
  intro ω S H x y u v Qv rl rx ry q
  unfold oDiv at q
  split at q
  · rename_i i j
    rw [rx.int, ry.int]
    split at q
    · rename_i h
      simp only [divOk, Bool.or_eq_true, Bool.and_eq_true, decide_eq_true_eq] at h
      rcases h with h | h
      · exact .inl ⟨_, _, rfl, rfl, h, q.now rl (Rp.mint _)⟩
      · refine .inr ⟨_, _, rfl, rfl, h, ?_⟩
        have e := Int.fdiv_eq_ediv_of_nonneg i (Int.le_of_lt h.1)
        show Qv (.int (i / j)) H
        rw [← e]
        exact q.now rl (Rp.mint _)
    · exact q.elim
  · exact q.elim
theorem ok_mod {K : PySem.W.Frag} : Ok2 K T (rI (fun _ j => j ≠ 0) fun i j => .int (i.fmod j)) oMod := by
  intro ω S H x y u v Qv rl rx ry q
  unfold oMod at q
  split at q
  · rw [rx.int, ry.int]
    split at q
    · exact q.elim
    · exact ⟨_, _, rfl, rfl, ‹_›, q.now rl (Rp.mint _)⟩
  · exact q.elim
theorem ok_pow {K : PySem.W.Frag} : Ok2 K T (rI CPow fun i j => .int (i ^ j.toNat)) oPow := by
  intro ω S H x y u v Qv rl rx ry q
  unfold oPow at q
  split at q
  · rw [rx.int, ry.int]
    split at q
    · rename_i h
      simp only [Bool.and_eq_true, decide_eq_true_eq] at h
      exact ⟨_, _, rfl, rfl, ⟨h.1.1, h.1.2, h.2⟩, q.now rl (Rp.mint _)⟩
    · exact q.elim
  · exact q.elim
theorem ok_neg {K : PySem.W.Frag} : Ok1 K T (rU fun i => .int (-i)) oNeg := by
  intro ω S H x u Qv rl rx q
  unfold oNeg at q
  split at q
  · rw [rx.int]
    exact ⟨_, rfl, q.now rl (Rp.mint _)⟩
  · exact q.elim
theorem ok_cmp {K : PySem.W.Frag} (f : Int → Int → Bool) : Ok2 K T (rI0 fun i j => .bl (f i j)) (oCmp f) := by
  intro ω S H x y u v Qv rl rx ry q
  unfold oCmp at q
  split at q
  · rw [rx.int, ry.int]
    exact ⟨_, _, rfl, rfl, q.now rl (Rp.mbl _)⟩
  · exact q.elim
mutual
theorem pd_dp {K : PySem.W.Frag} {T : Tb} {ω : Wd} {S : Store} {H : Hp} (rl : Rl K T ω S H) : ∀ (d : D) (v : V) (p : PyData), Rp K T ω d v → d.pd = some p → Dp K H v p
  | .non, v, p, r, e => by rw [r.non]; cases e; exact .non
  | .bl b, v, p, r, e => by rw [r.bl]; cases e; exact .bl b
  | .int b, v, p, r, e => by rw [r.int]; cases e; exact .int b
  | .str b, v, p, r, e => by rw [r.str]; cases e; exact .str b
  | .tup ds, v, p, r, e => by
    obtain ⟨a, vs, rfl, q, rs⟩ := Rp.tup rl r
    unfold D.pd at e
    cases e1 : pds ds with
    | none => rw [e1] at e; cases e
    | some ps =>
      rw [e1] at e
      cases e
      exact .tup q (pds_dp rl ds vs ps rs e1)
  | .lst ds, v, p, r, e => by
    obtain ⟨a, vs, rfl, q, rs⟩ := Rp.lst rl r
    unfold D.pd at e
    cases e1 : pds ds with
    | none => rw [e1] at e; cases e
    | some ps =>
      rw [e1] at e
      cases e
      exact .lst (SqL.of q) (pds_dp rl ds vs ps rs e1)
  | .ins _ _, v, p, r, e => by cases e
  | .dct _, v, p, r, e => by cases e
  | .odc, v, p, r, e => by cases e
  | .lam, v, p, r, e => by cases e
  | .ptr _, v, p, r, e => by cases e
  | .obj _, v, p, r, e => by cases e
  | .src _, v, p, r, e => by cases e
  | .fn _, v, p, r, e => by cases e
  | .exc _ _, v, p, r, e => by cases e
theorem pds_dp {K : PySem.W.Frag} {T : Tb} {ω : Wd} {S : Store} {H : Hp} (rl : Rl K T ω S H) : ∀ (ds : List D) (vs : List V) (ps : List PyData), Rps K T ω ds vs → pds ds = some ps → DpAll K H vs ps
  | [], vs, ps, r, e => by
    unfold Rps at r
    subst r
    cases e
    exact .nil
  | d :: ds, vs, ps, r, e => by
    unfold Rps at r
    obtain ⟨v, ws, rfl, r1, r2⟩ := r
    unfold pds at e
    cases e1 : d.pd with
    | none => simp [e1] at e
    | some p1 => cases e2 : pds ds with
      | none => simp [e1, e2] at e
      | some p2 =>
        simp [e1, e2] at e
        subst e
        exact .cons (pd_dp rl d v p1 r1 e1) (pds_dp rl ds ws p2 r2 e2)
end
theorem pdT_dp {K : PySem.W.Frag} {T : Tb} {ω : Wd} {S : Store} {H : Hp} (rl : Rl K T ω S H) (d : D) (v : V) (p : PyData) (r : Rp K T ω d v) (e : pdT S d = some p) : Dp K H v p := by
  cases d with
  | ptr k =>
    unfold pdT at e
    simp only at e
    split at e
    · rename_i ds hg
      obtain ⟨a, vs, rfl, _, h1, r1⟩ := Rp.ptr rl r hg
      cases e1 : pds ds with
      | none => rw [e1] at e; cases e
      | some ps =>
        rw [e1] at e
        cases e
        exact .lst (SqL.of h1) (pds_dp rl _ vs ps r1 e1)
    · cases e
  | _ => exact pd_dp rl _ v p r (by unfold pdT at e; exact e)
def rEqA (K : PySem.W.Frag) : R2 := fun x y H Qv => rEq x y H Qv ∨ rEqD K x y H Qv
def rNeA (K : PySem.W.Frag) : R2 := fun x y H Qv => rNe x y H Qv ∨ rNeD K x y H Qv
theorem or_eq (hu : X.A.units + 64 < cLine) : OpR X (compareOp .Eq) (rEqA X.K) := op_eq.or (op_eqD hu)
theorem or_ne (hu : X.A.units + 64 < cLine) : OpR X (compareOp .NotEq) (rNeA X.K) := op_ne.or (op_neD hu)
theorem eqD_ok {K : PySem.W.Frag} {ω : Wd} {S : Store} {H : Hp} {x y : D} {u v : V} {b : Bool} (rl : Rl K T.toTb ω S H) (rx : Rp K T.toTb ω x u) (ry : Rp K T.toTb ω y v) (e : eqD x y S = some b) :
    (scal u v = true ∧ b = decide (u = v)) ∨ ∃ d e, Dp K H u d ∧ Dp K H v e ∧ SeqAt.shaped d = true ∧ SeqAt.shaped e = true ∧ b = PyData.eqv d e := by
  unfold eqD at e
  split at e
  · cases e
    rw [rx.int, ry.int]
    exact .inl ⟨rfl, by simp⟩
  · cases e
    rw [rx.str, ry.str]
    exact .inl ⟨rfl, by simp⟩
  · cases e
    rw [rx.bl, ry.bl]
    exact .inl ⟨rfl, by simp⟩
  · split at e
    · rename_i p q hp hq
      split at e
      · rename_i hs
        rw [Bool.and_eq_true] at hs
        cases e
        exact .inr ⟨p, q, pdT_dp rl _ _ _ rx hp, pdT_dp rl _ _ _ ry hq, hs.1, hs.2, rfl⟩
      · cases e
    · cases e
theorem ok_eq {K : PySem.W.Frag} : Ok2 K T (rEqA K) oEq := by
  intro ω S H x y u v Qv rl rx ry q
  unfold oEq at q
  split at q
  · rename_i b hb
    rcases eqD_ok rl rx ry hb with ⟨h1, h2⟩ | ⟨d, e, h1, h2, h3, h4, h5⟩
    · exact .inl ⟨h1, by rw [← h2]; exact q.now rl (Rp.mbl _)⟩
    · exact .inr ⟨d, e, h1, h2, h3, h4, by rw [← h5]; exact q.now rl (Rp.mbl _)⟩
  · exact q.elim
theorem ok_ne {K : PySem.W.Frag} : Ok2 K T (rNeA K) oNe := by
  intro ω S H x y u v Qv rl rx ry q
  unfold oNe at q
  split at q
  · rename_i b hb
    rcases eqD_ok rl rx ry hb with ⟨h1, h2⟩ | ⟨d, e, h1, h2, h3, h4, h5⟩
    · exact .inl ⟨h1, by rw [← h2]; exact q.now rl (Rp.mbl _)⟩
    · exact .inr ⟨d, e, h1, h2, h3, h4, by rw [← h5]; exact q.now rl (Rp.mbl _)⟩
  · exact q.elim
theorem ixN_len {α β : Type} {xs : List α} {ys : List β} (h : xs.length = ys.length) {i : Int} {x : α} (e : atI xs i = some x) : ∃ (y : β) (j : Nat), atI ys i = some y ∧ xs[j]? = some x ∧ ys[j]? = some y := by
  unfold atI at e ⊢
  cases e1 : ixN xs.length i with
  | none => rw [e1] at e; cases e
  | some j =>
    rw [e1] at e
    have e' : xs[j]? = some x := e
    rw [← h, e1]
    have hj : j < xs.length := (List.getElem?_eq_some_iff.mp e').1
    exact ⟨ys[j]'(h ▸ hj), j, by simp [h ▸ hj], e', by simp [h ▸ hj]⟩
theorem ok_ix {K : PySem.W.Frag} : Ok2 K T (rIx K) oIx := by
  intro ω S H x y u v Qv rl rx ry q
  unfold oIx at q
  split at q
  · split at q
    · split at q
      · rw [rx.str, ry.int]
        exact .inr (.inr ⟨_, _, _, rfl, rfl, ‹_›, ‹_›, q.now rl (Rp.mstr _)⟩)
      · exact q.elim
    · exact q.elim
  · split at q
    · split at q
      · rename_i xs hx _ d hd
        obtain ⟨a, vs, rfl, hq, r⟩ := Rp.itemsLT rl rx hx
        obtain ⟨w, j, e1, e2, e3⟩ := ixN_len r.length hd
        obtain ⟨w', e4, rw'⟩ := r.get e2
        rw [e3] at e4
        cases e4
        rw [ry.int]
        rcases hq with hq | hq
        · exact .inl ⟨_, _, _, _, rfl, rfl, hq, e1, q.now rl rw'⟩
        · exact .inr (.inl ⟨_, _, _, _, rfl, rfl, hq, e1, q.now rl rw'⟩)
      · exact q.elim
    · exact q.elim
  · exact q.elim
theorem tCB_ok {r : List V → Hp → VK → Prop} {f : OpN} (hf : OkN X.K T r f) (σ : L2.St) (H : Hp) (Qv : VK) (h : tEr X.K T W (eN f ts) σ H Qv) : tCB r (tAr X.K T W (eArgs ts)) σ H Qv := by
  obtain ⟨s, S, ω, rl, rs, q⟩ := h
  refine ⟨s, S, ω, rl, rs, (EPg.bind q).mono ?_⟩
  rintro vs H1 ⟨ω1, S1, ds, e1, rl1, r1, q1⟩
  exact hf _ _ _ _ _ _ rl1 r1 (PQ.of q1)
theorem ge_blt {id : String} {x : Str} {p : Pos} {r : List V → Hp → VK → Prop} {f : OpN} (hc : CallR X (.builtin id) r) (hf : OkN X.K T r f) (hg : Gl X x) (hm : X.mg x = none) (hv : bootBuiltins x = some (.builtin id)) (ha : GA X T W (e :: es) ts)
    (hn : x ≠ "__name__" := by decide) (hdb : (x == ("__debug__" : Str)) = false := by decide) (he : starEach (e :: es) X.env = (false, eval e X.env) :: starEach es X.env := by rfl) (hpl : (backTo pos (starEach es X.env)).any (·.1) = false := by rfl) :
    GE X T W (.Call (.Name x p) (e :: es) [] pos) (eN f ts) := PE.imp (pe_callB hc hg hm hv ha hn hdb he hpl) (tCB_ok hf)
theorem ge_ty {id : String} {x : Str} {p : Pos} {r : List V → Hp → VK → Prop} {f : OpN} (hc : CallR X (.type id) r) (hf : OkN X.K T r f) (hg : Gl X x) (hm : X.mg x = none) (hv : bootBuiltins x = some (.type id)) (ha : GA X T W (e :: es) ts)
    (hn : x ≠ "__name__" := by decide) (hdb : (x == ("__debug__" : Str)) = false := by decide) (he : starEach (e :: es) X.env = (false, eval e X.env) :: starEach es X.env := by rfl) (hpl : (backTo pos (starEach es X.env)).any (·.1) = false := by rfl) :
    GE X T W (.Call (.Name x p) (e :: es) [] pos) (eN f ts) := PE.imp (pe_callTy hc hg hm hv ha hn hdb he hpl) (tCB_ok hf)
theorem Rps.one {K : PySem.W.Frag} {T : Tb} {ω : Wd} {d : D} {vs : List V} (h : Rps K T ω [d] vs) : ∃ v, vs = [v] ∧ Rp K T ω d v := by
  unfold Rps at h
  obtain ⟨v, ws, rfl, r, h2⟩ := h
  unfold Rps at h2
  exact ⟨v, by rw [h2], r⟩
theorem Rps.two {K : PySem.W.Frag} {T : Tb} {ω : Wd} {d e : D} {vs : List V} (h : Rps K T ω [d, e] vs) : ∃ v w, vs = [v, w] ∧ Rp K T ω d v ∧ Rp K T ω e w := by
  unfold Rps at h
  obtain ⟨v, ws, rfl, r, h2⟩ := h
  obtain ⟨w, rfl, r2⟩ := Rps.one h2
  exact ⟨v, w, rfl, r, r2⟩
theorem ok_abs {K : PySem.W.Frag} : OkN K T (fun xs H Qv => ∃ i, xs = [.int i] ∧ Qv (.int (if i < 0 then -i else i)) H) oAbs := by
  intro ω S H xs us Qv rl r q
  unfold oAbs at q
  split at q
  · obtain ⟨v, rfl, r1⟩ := r.one
    rw [r1.int]
    exact ⟨_, rfl, q.now rl (Rp.mint _)⟩
  · exact q.elim
def rIntA : List V → Hp → VK → Prop := fun xs H Qv => ((∃ i, xs = [.int i] ∧ Qv (.int i) H) ∨ ∃ k, xs = [.bl k] ∧ Qv (.int (if k then 1 else 0)) H) ∨ ∃ a n, xs = [.str a] ∧ PySem.intText? a = some n ∧ a.length ≤ 640 ∧ Qv (.int n) H
theorem cr_int : CallR X (.type "int") rIntA := call_int1.or call_int_str
theorem ok_int {K : PySem.W.Frag} : OkN K T rIntA oInt := by
  intro ω S H xs us Qv rl r q
  unfold oInt at q
  split at q
  · obtain ⟨v, rfl, r1⟩ := r.one
    rw [r1.int]
    exact .inl (.inl ⟨_, rfl, q.now rl (Rp.mint _)⟩)
  · obtain ⟨v, rfl, r1⟩ := r.one
    rw [r1.bl]
    exact .inl (.inr ⟨_, rfl, q.now rl (Rp.mint _)⟩)
  · obtain ⟨v, rfl, r1⟩ := r.one
    rw [r1.str]
    split at q
    · split at q
      · exact .inr ⟨_, _, rfl, ‹_›, ‹_›, q.now rl (Rp.mint _)⟩
      · exact q.elim
    · exact q.elim
  · exact q.elim
def rLenA (K : PySem.W.Frag) : List V → Hp → VK → Prop := fun xs H Qv => (∃ p ys, xs = [.ref p] ∧ (SqL K H p ys ∨ SqT K H p ys) ∧ Qv (.int ys.length) H) ∨ ∃ z, xs = [.str z] ∧ z.length ≤ sizeLine ∧ Qv (.int z.length) H
theorem or_len : CallR X (.builtin "len") (rLenA X.K) := call_len_seq.or call_len_str
theorem ok_len {K : PySem.W.Frag} : OkN K T (rLenA K) oLen := by
  intro ω S H xs us Qv rl r q
  unfold oLen at q
  split at q
  · obtain ⟨v, rfl, r1⟩ := r.one
    rw [r1.str]
    split at q
    · exact .inr ⟨_, rfl, ‹_›, q.now rl (Rp.mint _)⟩
    · exact q.elim
  · obtain ⟨v, rfl, r1⟩ := r.one
    split at q
    · obtain ⟨p, vs, rfl, h1, r2⟩ := Rp.itemsLT rl r1 ‹_›
      exact .inl ⟨_, _, rfl, h1, by rw [← r2.length]; exact q.now rl (Rp.mint _)⟩
    · exact q.elim
  · exact q.elim
theorem ok_max2 {K : PySem.W.Frag} : OkN K T (fun xs H Qv => ∃ i j, xs = [.int i, .int j] ∧ Qv (.int (if j > i then j else i)) H) oMax2 := by
  intro ω S H xs us Qv rl r q
  unfold oMax2 at q
  split at q
  · obtain ⟨v, w, rfl, r1, r2⟩ := r.two
    rw [r1.int, r2.int]
    exact ⟨_, _, rfl, q.now rl (Rp.mint _)⟩
  · exact q.elim
theorem ok_min2 {K : PySem.W.Frag} : OkN K T (fun xs H Qv => ∃ i j, xs = [.int i, .int j] ∧ Qv (.int (if j < i then j else i)) H) oMin2 := by
  intro ω S H xs us Qv rl r q
  unfold oMin2 at q
  split at q
  · obtain ⟨v, w, rfl, r1, r2⟩ := r.two
    rw [r1.int, r2.int]
    exact ⟨_, _, rfl, q.now rl (Rp.mint _)⟩
  · exact q.elim
theorem vals_of_idx' : ∀ (xs : List V) (us : List Value), us.length = xs.length → (∀ (j : Nat) (u : Value), us[j]? = some u → ∃ x, xs[j]? = some x ∧ RelV x u) → Vals xs us
  | [], [], _, _ => .nil
  | [], _ :: _, h, _ => by simp at h
  | _ :: _, [], h, _ => by simp at h
  | x :: xs, u :: us, h, k => by
    obtain ⟨y, e, r⟩ := k 0 u rfl
    have e' : x = y := by simpa using e
    subst e'
    refine .cons r (vals_of_idx' xs us (by simpa using h) fun j v hj => ?_)
    have := k (j + 1) v (by simpa using hj)
    simpa using this
def sgV (z : Str) : List V := z.cps.toList.map fun c => V.str ⟨#[c]⟩
theorem sg_vals {z : Str} {acc : Array Value} (h : ItemsOf (SignAt z) acc z.cps.size) : Vals (sgV z) acc.toList := by
  unfold sgV
  obtain ⟨h1, h2⟩ := h
  refine vals_of_idx' _ _ ?_ fun j u hj => ?_
  · simp [h1]
  · have hj' : acc[j]? = some u := by simpa using hj
    obtain ⟨hl, e⟩ := Array.getElem?_eq_some_iff.mp hj'
    obtain ⟨c, t, e1, e2⟩ := h2 j u hj'
    exact ⟨V.str ⟨#[c]⟩, by simp [e1], t, e2⟩
def rTupS : List V → Hp → VK → Prop := fun xs H Q => ∃ z, xs = [.str z] ∧ z.length ≤ sizeLine ∧ ∀ l, H l = none → Q (.ref l) (upd H l (.tup (sgV z)))
def rLstS : List V → Hp → VK → Prop := fun xs H Q => ∃ z, xs = [.str z] ∧ z.length ≤ sizeLine ∧ ∀ l, H l = none → Q (.ref l) (upd H l (.lst (sgV z)))
theorem sgV_len (z : Str) : (sgV z).length = z.length := by simp [sgV, Str.length]
theorem cr_tupS (hc : X.calm = true) : CallR X (.type "tuple") rTupS := by
  intro pins s σ H xs us Q I r h
  obtain ⟨z, rfl, hz, q⟩ := h
  obtain ⟨u, rfl, t, rfl⟩ := vals1 r
  refine call_tuple_str (I.ok.hd hc) z t (fun h' tk acc hk hacc => ?_) hz
  have I1 : Inv X pins σ H { s with heap := h', toks := tk } := I.kept (t' := tk) hk
  exact ⟨.ref _, _, I1.laid (t' := tk) (o := .tup (sgV z)) (fun b ob e => Heap.get?_push_of_some _ e) (Nat.le_refl _) ⟨by rw [sgV_len]; exact hz, acc.toList, sg_vals hacc, ⟨_, Heap.get?_push_size _ rfl, rfl, 0, by simp⟩⟩, rfl, q _ (I1.hok.fresh (Nat.le_refl _))⟩
theorem cr_lstS (hc : X.calm = true) : CallR X (.type "list") rLstS := by
  intro pins s σ H xs us Q I r h
  obtain ⟨z, rfl, hz, q⟩ := h
  obtain ⟨u, rfl, t, rfl⟩ := vals1 r
  refine call_list_str (I.ok.hd hc) z t (fun h' tk acc c' hk hl hacc => ?_) hz
  exact ⟨.ref _, _, I.laid (t' := tk) (o := .lst (sgV z)) hk (Nat.le_refl _) ⟨by rw [sgV_len]; exact hz, acc.toList, c', sg_vals hacc, by simpa using hl⟩, rfl, q _ (I.hok.fresh (Nat.le_refl _))⟩
theorem Rps.signs {K : PySem.W.Frag} {T : Tb} {ω : Wd} (z : Str) : Rps K T ω (z.cps.toList.map fun c => .str ⟨#[c]⟩) (sgV z) := by
  unfold sgV
  induction z.cps.toList with
  | nil => exact Rps.nil
  | cons c cs ih => exact Rps.cons (Rp.mstr _) ih
def rTupleOf0 (K : PySem.W.Frag) : List V → Hp → VK → Prop := fun xs H Q => ∃ p ys, xs = [.ref p] ∧ ((SqL K H p ys ∧ ∀ l, H l = none → Q (.ref l) (upd H l (.tup ys))) ∨ (SqT K H p ys ∧ Q (.ref p) H))
def rTupleOf (K : PySem.W.Frag) : List V → Hp → VK → Prop := fun xs H Q => rTupS xs H Q ∨ rTupleOf0 K xs H Q
theorem cr_tupleOf (hc : X.calm = true) : CallR X (.type "tuple") (rTupleOf X.K) := (cr_tupS hc).or call_tuple_of
theorem ok_tupleOf {K : PySem.W.Frag} : OkN K T (rTupleOf K) oTupleOf := by
  intro ω S H xs us Qv rl r q
  unfold oTupleOf at q
  split at q
  · obtain ⟨v, rfl, r1⟩ := r.one
    rw [r1.str]
    split at q
    · exact .inl ⟨_, rfl, ‹_›, q.newTup rl (Rps.signs _)⟩
    · exact q.elim
  · refine .inr ?_
    obtain ⟨v, rfl, r1⟩ := r.one
    split at q
    · rename_i d _ _ ds hd
      cases d with
      | tup ys =>
        cases hd
        unfold Rp at r1
        obtain ⟨p, vs, rfl, h1, r2⟩ := r1
        exact ⟨_, _, rfl, .inr ⟨Same.seqT rl.sub h1, q.now rl (Rp.mtup h1 r2)⟩⟩
      | lst ys =>
        obtain ⟨p, vs, rfl, h1, r2⟩ := Rp.itemsL rl r1 hd
        exact ⟨_, _, rfl, .inl ⟨SqL.of h1, q.newTup rl r2⟩⟩
      | ptr k =>
        obtain ⟨p, vs, rfl, h1, r2⟩ := Rp.itemsL rl r1 hd
        exact ⟨_, _, rfl, .inl ⟨SqL.of h1, q.newTup rl r2⟩⟩
      | _ => cases hd
    · exact q.elim
  · exact q.elim
def rListOf0 (K : PySem.W.Frag) : List V → Hp → VK → Prop := fun xs H Q => ∃ p ys, xs = [.ref p] ∧ (SqL K H p ys ∨ SqT K H p ys) ∧ ∀ l, H l = none → Q (.ref l) (upd H l (.lst ys))
def rListOf (K : PySem.W.Frag) : List V → Hp → VK → Prop := fun xs H Q => rLstS xs H Q ∨ rListOf0 K xs H Q
theorem cr_listOf (hc : X.calm = true) : CallR X (.type "list") (rListOf X.K) := (cr_lstS hc).or call_list_of
theorem ok_listOf {K : PySem.W.Frag} : OkN K T (rListOf K) oListOf := by
  intro ω S H xs us Qv rl r q
  unfold oListOf at q
  split at q
  · obtain ⟨v, rfl, r1⟩ := r.one
    rw [r1.str]
    split at q
    · exact .inl ⟨_, rfl, ‹_›, q.newLst rl (Rps.signs _)⟩
    · exact q.elim
  · refine .inr ?_
    obtain ⟨v, rfl, r1⟩ := r.one
    split at q
    · obtain ⟨p, vs, rfl, h1, r2⟩ := Rp.itemsLT rl r1 ‹_›
      exact ⟨_, _, rfl, h1, q.newLst rl r2⟩
    · exact q.elim
  · exact q.elim
def rAllA (K : PySem.W.Frag) : List V → Hp → VK → Prop := fun vs H Qv => ∃ (a : Addr) (bs : List Bool), vs = [V.ref a] ∧ SqL K H a (bs.map V.bl) ∧ Qv (.bl (bs.all id)) H
theorem ok_all {K : PySem.W.Frag} : OkN K T (rAllA K) oAll := by
  intro ω S H xs us Qv rl r q
  unfold oAll at q
  split at q
  · obtain ⟨v, rfl, r1⟩ := r.one
    split at q
    · obtain ⟨p, vs, rfl, h1, r2⟩ := Rp.lst rl r1
      have e := r2.bls ‹_›
      subst e
      exact ⟨_, _, rfl, SqL.of h1, q.now rl (Rp.mbl _)⟩
    · exact q.elim
  · exact q.elim
theorem eArgs_len {s : Sl} : ∀ {us : List Q.TE} {S : Store} {ds : List D} {S1 : Store}, eArgs us s S = .ok ds S1 → ds.length = us.length := by
  intro us
  induction us with
  | nil => intro S ds S1 e; cases e; rfl
  | cons a as ih =>
    intro S ds S1 e
    unfold eArgs at e
    cases e0 : a s S with
    | ok d S2 =>
      rw [e0] at e
      simp only [Res.bind] at e
      cases e3 : eArgs as s S2 with
      | ok es S3 =>
        rw [e3] at e
        simp only [Res.ok.injEq] at e
        rw [← e.1, List.length_cons, ih e3]; rfl
      | ex x S3 => rw [e3] at e; cases e
      | err => rw [e3] at e; cases e
    | ex x S2 => rw [e0] at e; cases e
    | err => rw [e0] at e; cases e
theorem ge_lst (h : GA X T W es ts) (hl : decide (ts.length ≤ 1000) = true := by rfl) : GE X T W (.List es pos) (eLst ts) := PE.imp (pe_lst h) fun σ H Qv ⟨s, S, ω, rl, rs, q⟩ => by
  refine ⟨s, S, ω, rl, rs, ?_⟩
  unfold eLst at q
  cases e0 : eArgs ts s S with
  | ok ds S' =>
    rw [e0] at q
    intro ω' H' vs e rl' r
    have hd := eArgs_len e0
    refine ⟨by rw [← r.length, hd]; exact Nat.le_trans (of_decide_eq_true hl) (by rw [sizeLine_eq]; decide), fun p hp => ?_⟩
    obtain ⟨ω2, e2, rl2, hF⟩ := Rl.laid rl' hp (.lst vs)
    exact q ω2 _ _ (e.trans e2) rl2 (Rp.mlst hF (r.ext e2))
  | ex x S' => rw [e0] at q; exact q
  | err => rw [e0] at q; exact q
theorem ge_lstM (h : GA X T W es ts) (hl : decide (ts.length ≤ 1000) = true := by rfl) : GE X T W (.List es pos) (eLstM ts) := PE.imp (pe_lst h) fun σ H Qv ⟨s, S, ω, rl, rs, q⟩ => by
  refine ⟨s, S, ω, rl, rs, ?_⟩
  unfold eLstM at q
  cases e0 : eArgs ts s S with
  | ok ds S' =>
    rw [e0] at q
    intro ω' H' vs e rl' r
    have hd := eArgs_len e0
    refine ⟨by rw [← r.length, hd]; exact Nat.le_trans (of_decide_eq_true hl) (by rw [sizeLine_eq]; decide), fun p hp => ?_⟩
    have q1 : EPg X.K T (Rp X.K T.toTb) W σ ω S H (if flats ds then .ok (.ptr S'.L.length) (S'.new ds) else .err) Qv := q
    split at q1
    · obtain ⟨ω2, e2, rl2, hp2⟩ := Rl.newL rl' hp ‹_› r
      exact q1 ω2 _ _ (e.trans e2) rl2 hp2
    · exact q1.elim
  | ex x S' => rw [e0] at q; exact q
  | err => rw [e0] at q; exact q
def Ty.nm : Ty → String
  | .int => "int"
  | .bool => "bool"
  | .str => "str"
  | .tuple => "tuple"
  | .list => "list"
  | .dict => "dict"
theorem tyOf_ok {K : PySem.W.Frag} {T : Tb} {ω : Wd} {S : Store} {H : Hp} {d : D} {v : V} {us : List Ty} (rl : Rl K T ω S H) (r : Rp K T ω d v) (e : Ty.of S d = some us) :
    ∃ t, TyX K H v t ∧ ∀ ty : Ty, PySem.W.kitOne K t (.type ty.nm) = some (us.any (Ty.eqb ty)) := by
  cases d with
  | non => cases e; rw [r.non]; exact ⟨_, .base .non, fun ty => by cases ty <;> rfl⟩
  | bl b => cases e; rw [r.bl]; exact ⟨_, .base (.bl b), fun ty => by cases ty <;> rfl⟩
  | int b => cases e; rw [r.int]; exact ⟨_, .base (.int b), fun ty => by cases ty <;> rfl⟩
  | str b => cases e; rw [r.str]; exact ⟨_, .base (.str b), fun ty => by cases ty <;> rfl⟩
  | tup b =>
    cases e
    obtain ⟨a, vs, rfl, h, _⟩ := Rp.tup rl r
    have k : ∀ ty : Ty, PySem.W.kitOne K (.type "tuple") (.type ty.nm) = some ([Ty.tuple].any (Ty.eqb ty)) := fun ty => by cases ty <;> rfl
    rcases h with (h | ⟨o, h⟩) | ⟨o, its, n, h, hc, _⟩
    · exact ⟨_, .base (.tup h), k⟩
    · exact ⟨_, .fTuple h, k⟩
    · exact ⟨_, .kTuple h hc, k⟩
  | lst b =>
    cases e
    obtain ⟨a, vs, rfl, h, _⟩ := Rp.lst rl r
    exact ⟨_, .base (.lst h), fun ty => by cases ty <;> rfl⟩
  | src b =>
    cases e
    obtain ⟨a, rfl, h⟩ := Rp.src rl r
    have k : ∀ ty : Ty, PySem.W.kitOne K (.type "list") (.type ty.nm) = some ([Ty.list].any (Ty.eqb ty)) := fun ty => by cases ty <;> rfl
    rcases h with (h | ⟨o, h⟩) | ⟨o, its, n, h, hc, _⟩
    · exact ⟨_, .base (.lst h), k⟩
    · exact ⟨_, .base (.frz h), k⟩
    · exact ⟨_, .kList h hc, k⟩
  | dct b =>
    cases e
    unfold Rp at r
    obtain ⟨a, ws, rfl, h, _⟩ := r
    exact ⟨_, .base (.dK (rl.sub _ _ h)), fun ty => by cases ty <;> rfl⟩
  | ptr k =>
    unfold Ty.of at e
    simp only at e
    split at e
    · cases e
      obtain ⟨a, vs, rfl, _, h, _⟩ := Rp.ptr rl r ‹_›
      exact ⟨_, .base (.lst h), fun ty => by cases ty <;> rfl⟩
    · cases e
  | _ => cases e
theorem pe_tyname {x : Str} {n : String} {p : Pos} (hg : Gl X x) (hm : X.mg x = none) (hv : bootBuiltins x = some (.type n)) (hn : x ≠ "__name__" := by decide) (hd : (x == ("__debug__" : Str)) = false := by decide) : PE X (.Name x p) (tC (.ty n)) := pe_bltn hg hm hv rfl hn hd
def rIsiD (K : PySem.W.Frag) : List V → Hp → VK → Prop := fun xs H Q => rIsi K xs H Q ∨ ∃ (a : Addr) (t : Ty), xs = [.ref a, .ty t.nm] ∧ H a = some (.ext (isDc a)) ∧ Q (.bl (Ty.eqb t .dict)) H
theorem call_isiD : CallR X (.builtin "isinstance") (rIsiD X.K) := by
  intro pins s σ H xs us Q I r h
  rcases h with h | ⟨a, t, rfl, ha, q⟩
  · exact call_isi pins s σ H xs us Q I r h
  · obtain ⟨u1, u2, rfl, ra, rb⟩ := vals2 r
    cases (show u1 = Value.ref a from ra)
    cases (show u2 = Value.type t.nm from rb)
    obtain ⟨⟨o, es, n, g1, g2, -⟩, -⟩ := (show ObjOk X.prog X.w H s.heap a (.ext (isDc a)) from I.hok a _ ha)
    have ke : PySem.W.kitOne X.K (.type "dict") (.type t.nm) = some (Ty.eqb t .dict) := by cases t <;> rfl
    exact PySem.W.kia_one PySem.W.kitx_dict I.kIn ⟨o, g1, g2⟩ ke (fun z => nomatch z) fun tk => ⟨.bl _, H, I.tok tk, rfl, q⟩
theorem ge_isi {t : Ty} {p : Pos} (hg : Gl X "isinstance") (hm : X.mg "isinstance" = none) (ha : GE X T W a ta) (hty : PE X b (tC (.ty t.nm)))
    (he : starEach (a :: [b]) X.env = (false, eval a X.env) :: starEach [b] X.env := by rfl) (he2 : starEach (b :: []) X.env = (false, eval b X.env) :: starEach [] X.env := by rfl) (hpl : (backTo pos (starEach [b] X.env)).any (·.1) = false := by rfl) :
    GE X T W (.Call (.Name "isinstance" p) [a, b] [] pos) (e1 (oIsi [t]) ta) := PE.imp (pe_callB call_isiD hg hm (by decide +kernel) (pa_cons ha (pa_cons hty pa_nil he2) he) (by decide) (by decide) he hpl) fun σ H Qv ⟨s, S, ω, rl, rs, q⟩ => by
  refine ⟨s, S, ω, rl, rs, (EPg.bind q).mono ?_⟩
  rintro v H1 ⟨ω1, S1, d, e1, rl1, r1, q1⟩
  have q2 := PQ.of q1
  unfold oIsi at q2
  split at q2
  · rename_i us hus
    obtain ⟨tv, h1, h2⟩ := tyOf_ok rl1 r1 hus
    refine .inl ⟨v, .ty t.nm, tv, _, _, rfl, .ty _, h1, h2 t, ?_⟩
    have q3 := q2.now rl1 (Rp.mbl _)
    simpa using q3
  · split at q2
    · rename_i hts _
      cases hts
      unfold Rp at r1
      obtain ⟨c, rfl, hF⟩ := r1
      exact .inr ⟨c, t, rfl, rl1.sub _ _ hF, q2.now rl1 (Rp.mbl _)⟩
    · exact q2.elim
theorem ge_isi2 {t t' : Ty} {p pt : Pos} {k : Nat} {b' : Expr} (hg : Gl X "isinstance") (hm : X.mg "isinstance" = none) (ha : GE X T W a ta) (hty : PE X b (tC (.ty t.nm))) (hty' : PE X b' (tC (.ty t'.nm)))
    (he : starEach (a :: [.Tuple [b, b'] k pt]) X.env = (false, eval a X.env) :: starEach [.Tuple [b, b'] k pt] X.env := by rfl) (he1 : starEach (.Tuple [b, b'] k pt :: []) X.env = (false, eval (.Tuple [b, b'] k pt) X.env) :: starEach [] X.env := by rfl)
    (he2 : starEach (b :: [b']) X.env = (false, eval b X.env) :: starEach [b'] X.env := by rfl) (he3 : starEach (b' :: []) X.env = (false, eval b' X.env) :: starEach [] X.env := by rfl) (hpl : (backTo pos (starEach [.Tuple [b, b'] k pt] X.env)).any (·.1) = false := by rfl) :
    GE X T W (.Call (.Name "isinstance" p) [a, .Tuple [b, b'] k pt] [] pos) (e1 (oIsi [t, t']) ta) :=
  PE.imp (pe_callB call_isiT hg hm (by decide +kernel) (pa_cons ha (pa_cons (pe_tup (pa_cons hty (pa_cons hty' pa_nil he3) he2)) pa_nil he1) he) (by decide) (by decide) he hpl) fun σ H Qv ⟨s, S, ω, rl, rs, q⟩ => by
  refine ⟨s, S, ω, rl, rs, (EPg.bind q).mono ?_⟩
  rintro v H1 ⟨ω1, S1, d, e1, rl1, r1, q1⟩
  refine ⟨by show 2 ≤ sizeLine; rw [sizeLine_eq]; decide, fun tp hp => ?_⟩
  obtain ⟨ω2, e2, rl2, hF⟩ := Rl.laid rl1 hp (.tup [V.ty t.nm, V.ty t'.nm])
  have q2 := PQ.of (EPg.shift e2 q1)
  unfold oIsi at q2
  split at q2
  · rename_i us hus
    obtain ⟨tv, h1, h2⟩ := tyOf_ok rl2 (r1.ext e2) hus
    refine ⟨v, tp, _, tv, _, us.any (Ty.eqb t) || us.any (Ty.eqb t'), rfl, upd_same, .cons (.ty _) (.cons (.ty _) .nil), h1, ?_, ?_⟩
    · show PySem.W.kitAny X.K tv [.type t.nm, .type t'.nm] = _
      simp only [PySem.W.kitAny, h2]
      cases us.any (Ty.eqb t) <;> cases us.any (Ty.eqb t') <;> rfl
    · have q3 := q2.now rl2 (Rp.mbl _)
      simpa using q3
  · split at q2
    · rename_i hts _
      cases hts
    · exact q2.elim
end
end Q
set_option maxHeartbeats 1000000
namespace Q
open PySem PySem.Spec PyProof.Rows L2
section
variable {K : PySem.W.Frag} {T : Tb} {ω : Wd} {S : Store} {H : Hp}
theorem get_put {k j : Nat} {xs es : List D} (h : (S.put k xs).get j = some es) : (j = k ∧ es = xs) ∨ (j ≠ k ∧ S.get j = some es) := by
  unfold Store.get Store.put at h
  simp only at h
  by_cases hj : k = j
  · subst hj
    by_cases hl : k < S.L.length
    · rw [List.getElem?_set_self hl] at h
      cases h
      exact .inl ⟨rfl, rfl⟩
    · rw [List.getElem?_eq_none (by simpa using hl)] at h
      cases h
  · rw [List.getElem?_set_ne hj] at h
    exact .inr ⟨Ne.symm hj, h⟩
theorem get_del {k j : Nat} {es : List D} (h : (S.del k).get j = some es) : j ≠ k ∧ S.get j = some es := by
  unfold Store.get Store.del at h
  simp only at h
  by_cases hj : k = j
  · subst hj
    by_cases hl : k < S.L.length
    · rw [List.getElem?_set_self hl] at h
      cases h
    · rw [List.getElem?_eq_none (by simpa using hl)] at h
      cases h
  · rw [List.getElem?_set_ne hj] at h
    exact ⟨Ne.symm hj, h⟩
theorem get_cut {n j : Nat} {es : List D} (h : (S.cut n).get j = some es) : j < n ∧ S.get j = some es := by
  unfold Store.get Store.cut at h
  simp only at h
  by_cases hj : j < n
  · rw [List.getElem?_take_of_lt hj] at h
    exact ⟨hj, h⟩
  · rw [List.getElem?_eq_none (by rw [List.length_take]; omega)] at h
    cases h
theorem Rl0.put (rl : Rl0 K T ω S H) {k : Nat} {ds es : List D} {ws : List V} (g : S.get k = some ds) (hf : flats es = true) (r : Rps K T ω es ws) : Ext ω S H ω (S.put k es) (upd H (ω.al k) (.lst ws)) ∧ Rl0 K T ω (S.put k es) (upd H (ω.al k) (.lst ws)) := by
  obtain ⟨hF, _, vs, hH, _⟩ := rl.obj k ds g
  have own : ∀ b, Own ω (S.put k es) b → Own ω S b := fun b h => by
    rcases h with h | ⟨j, fs, h, e⟩ | h
    · exact .inl h
    · rcases get_put h with ⟨rfl, _⟩ | ⟨_, h'⟩
      · exact .inr (.inl ⟨j, ds, g, e⟩)
      · exact .inr (.inl ⟨j, fs, h', e⟩)
    · exact .inr (.inr h)
  refine ⟨⟨fun _ _ h => h, fun _ _ => rfl, Nat.le_refl _, fun _ _ => rfl, Nat.le_refl _, fun j fs _ h => ?_, fun b q h _ n => ⟨?_, fun z => n (own b z)⟩⟩, fun b q h => ?_, ?_, fun j fs h => ?_, fun i j fs gs h1 h2 e => ?_, rl.lenO, fun j v h => ?_, rl.injO, rl.nt, ⟨tabs_put rl.tab.1 (.inr ⟨_, hH⟩), lamcs_put rl.tab.2 (plainL (.inr ⟨_, hH⟩))⟩⟩
  · rcases get_put h with ⟨rfl, _⟩ | ⟨_, h'⟩
    · exact ⟨_, g⟩
    · exact ⟨_, h'⟩
  · have hb : b ≠ ω.al k := fun z => n (.inr (.inl ⟨k, ds, g, z.symm⟩))
    rw [upd_ne hb]; exact h
  · have hb : b ≠ ω.al k := fun z => by rw [z, hF] at h; cases h
    rw [upd_ne hb]; exact rl.sub _ _ h
  · show (S.L.set k (some es)).length = ω.n
    rw [List.length_set]; exact rl.len
  · rcases get_put h with ⟨rfl, rfl⟩ | ⟨hj, h'⟩
    · exact ⟨hF, hf, ws, upd_same, r⟩
    · obtain ⟨a1, a2, us, a3, a4⟩ := rl.obj j fs h'
      exact ⟨a1, a2, us, by rw [upd_ne fun z => hj (rl.inj j k _ _ h' g z)]; exact a3, a4⟩
  · have f : ∀ {i fs}, (S.put k es).get i = some fs → ∃ gs, S.get i = some gs := fun {i fs} h => by
      rcases get_put h with ⟨rfl, _⟩ | ⟨_, h'⟩
      · exact ⟨_, g⟩
      · exact ⟨_, h'⟩
    obtain ⟨_, z1⟩ := f h1
    obtain ⟨_, z2⟩ := f h2
    exact rl.inj i j _ _ z1 z2 e
  · obtain ⟨a1, a2, o2, a3, a4⟩ := rl.objO j v h
    exact ⟨a1, a2, o2, by rw [upd_ne fun z => by rw [z, hH] at a3; exact a4.lst _ (Option.some.inj a3).symm]; exact a3, a4⟩
theorem Rl0.frz (rl : Rl0 K T ω S H) {k : Nat} {ds : List D} {vs : List V} (g : S.get k = some ds) (hH : H (ω.al k) = some (.lst vs)) (r : Rps K T ω ds vs) :
    ∃ ω', Ext ω S H ω' (S.del k) H ∧ Rl0 K T ω' (S.del k) H ∧ ω'.F (ω.al k) = some (.lst vs) := by
  obtain ⟨hF, _⟩ := rl.obj k ds g
  have fx : Same ω.F (upd ω.F (ω.al k) (.lst vs)) := fun b q h => by rw [upd_ne (ne_of_none h hF)]; exact h
  have mn : ∀ {es us}, Rps K T ω es us → Rps K T ⟨upd ω.F (ω.al k) (.lst vs), ω.al, ω.n, ω.ao, ω.m⟩ es us := fun {es us} h => Rps.mono (ω := ω) (ω' := ⟨upd ω.F (ω.al k) (.lst vs), ω.al, ω.n, ω.ao, ω.m⟩) fx (fun _ _ => rfl) (Nat.le_refl _) (fun _ _ => rfl) (Nat.le_refl _) _ _ h
  have own : ∀ b, Own ⟨upd ω.F (ω.al k) (.lst vs), ω.al, ω.n, ω.ao, ω.m⟩ (S.del k) b → Own ω S b := fun b h => by
    rcases h with ⟨q, h⟩ | ⟨j, fs, h, e⟩ | h
    · by_cases hb : b = ω.al k
      · exact .inr (.inl ⟨k, ds, g, hb.symm⟩)
      · have h' : upd ω.F (ω.al k) (.lst vs) b = some q := h
        rw [upd_ne hb] at h'
        exact .inl ⟨q, h'⟩
    · exact .inr (.inl ⟨j, fs, (get_del h).2, e⟩)
    · exact .inr (.inr h)
  refine ⟨⟨upd ω.F (ω.al k) (.lst vs), ω.al, ω.n, ω.ao, ω.m⟩, ⟨fx, fun _ _ => rfl, Nat.le_refl _, fun _ _ => rfl, Nat.le_refl _, fun j fs _ h => ⟨_, (get_del h).2⟩, fun b q h _ n => ⟨h, fun z => n (own b z)⟩⟩, ⟨fun b q h => ?_, ?_, fun j fs h => ?_, fun i j fs gs h1 h2 e => ?_, rl.lenO, fun j v h => ?_, rl.injO, fun b ps h => ?_, ⟨rl.tab.1, lamcs_F rl.tab.2 fun I _ c => lamO_lst⟩⟩, upd_same⟩
  · by_cases hb : b = ω.al k
    · have h' : upd ω.F (ω.al k) (.lst vs) b = some q := h
      rw [hb, upd_same] at h'
      rw [hb, hH]; exact h'
    · have h' : upd ω.F (ω.al k) (.lst vs) b = some q := h
      rw [upd_ne hb] at h'
      exact rl.sub _ _ h'
  · show (S.L.set k none).length = ω.n
    rw [List.length_set]; exact rl.len
  · obtain ⟨hj, h'⟩ := get_del h
    obtain ⟨a1, a2, us, a3, a4⟩ := rl.obj j fs h'
    refine ⟨?_, a2, us, a3, mn a4⟩
    show upd ω.F (ω.al k) _ (ω.al j) = none
    rw [upd_ne fun z => hj (rl.inj j k _ _ h' g z)]; exact a1
  · exact rl.inj i j _ _ (get_del h1).2 (get_del h2).2 e
  · obtain ⟨a1, a2, o2, a3, a4⟩ := rl.objO j v h
    refine ⟨?_, a2, o2, a3, Lvr.mono (ω := ω) (ω' := ⟨upd ω.F (ω.al k) (.lst vs), ω.al, ω.n, ω.ao, ω.m⟩) fx (fun _ _ => rfl) (Nat.le_refl _) (fun _ _ => rfl) (Nat.le_refl _) a4⟩
    show upd ω.F (ω.al k) _ (ω.ao j) = none
    rw [upd_ne fun z => by rw [z, hH] at a3; exact a4.lst _ (Option.some.inj a3).symm]; exact a1
  · have h' : upd ω.F (ω.al k) (.lst vs) b = some (.tbl ps) := h
    by_cases hb : b = ω.al k
    · rw [hb, upd_same] at h'; cases h'
    · rw [upd_ne hb] at h'; exact rl.nt b ps h'
theorem Rl0.cut {ω0 : Wd} {S0 : Store} {H0 : Hp} (rl0 : Rl0 K T ω0 S0 H0) (rl : Rl0 K T ω S H) (e : Ext ω0 S0 H0 ω S H) : ∃ ω', Ext ω0 S0 H0 ω' (S.cut S0.L.length) H ∧ Rl0 K T ω' (S.cut S0.L.length) H ∧ (∀ d v, d.flat = true → Rp K T ω d v → Rp K T ω' d v) ∧ ω'.F = ω.F ∧
    (∀ ds vs, flats ds = true → Rps K T ω ds vs → Rps K T ω' ds vs) := by
  have fl : ∀ d v, d.flat = true → Rp K T ω d v → Rp K T ⟨ω.F, ω.al, ω0.n, ω.ao, ω.m⟩ d v := fun d v f r => Rp.flat (ω := ω) (ω' := ⟨ω.F, ω.al, ω0.n, ω.ao, ω.m⟩) (fun _ _ h => h) d v f r
  have fls : ∀ d v, flats d = true → Rps K T ω d v → Rps K T ⟨ω.F, ω.al, ω0.n, ω.ao, ω.m⟩ d v := fun d v f r => Rps.flat (ω := ω) (ω' := ⟨ω.F, ω.al, ω0.n, ω.ao, ω.m⟩) (fun _ _ h => h) d v f r
  refine ⟨⟨ω.F, ω.al, ω0.n, ω.ao, ω.m⟩, ⟨e.fix, e.al, Nat.le_refl _, e.ao, e.lenO, fun k es hk h => e.live k es hk (get_cut h).2, fun b q h t n => ?_⟩, ⟨rl.sub, ?_, fun j fs h => ?_, fun i j fs gs h1 h2 q => ?_, rl.lenO, fun j v h => ?_, rl.injO, rl.nt, rl.tab⟩, fl, rfl, fls⟩
  · obtain ⟨h1, n1⟩ := e.frame b q h t n
    refine ⟨h1, fun z => n1 ?_⟩
    rcases z with z | ⟨j, fs, h, e⟩ | z
    · exact .inl z
    · exact .inr (.inl ⟨j, fs, (get_cut h).2, e⟩)
    · exact .inr (.inr z)
  · show (S.L.take S0.L.length).length = ω0.n
    rw [List.length_take, rl.len, rl0.len]
    have := e.len
    omega
  · obtain ⟨a1, a2, us, a3, a4⟩ := rl.obj j fs (get_cut h).2
    exact ⟨a1, a2, us, a3, fls _ _ a2 a4⟩
  · exact rl.inj i j _ _ (get_cut h1).2 (get_cut h2).2 q
  · obtain ⟨a1, a2, o2, a3, a4⟩ := rl.objO j v h
    exact ⟨a1, a2, o2, a3, Lvr.flat (ω := ω) (ω' := ⟨ω.F, ω.al, ω0.n, ω.ao, ω.m⟩) (fun _ _ h => h) (fun _ _ => rfl) (Nat.le_refl _) a2 a4⟩
theorem Rl.put (rl : Rl K T ω S H) {k : Nat} {ds es : List D} {ws : List V} (g : S.get k = some ds) (hf : flats es = true) (r : Rps K T ω es ws) : Ext ω S H ω (S.put k es) (upd H (ω.al k) (.lst ws)) ∧ Rl K T ω (S.put k es) (upd H (ω.al k) (.lst ws)) :=
  let ⟨e, x⟩ := rl.toRl0.put g hf r
  ⟨e, ⟨x, pin_ext rl e x.sub⟩⟩
theorem Rl.frz (rl : Rl K T ω S H) {k : Nat} {ds : List D} {vs : List V} (g : S.get k = some ds) (hH : H (ω.al k) = some (.lst vs)) (r : Rps K T ω ds vs) :
    ∃ ω', Ext ω S H ω' (S.del k) H ∧ Rl K T ω' (S.del k) H ∧ ω'.F (ω.al k) = some (.lst vs) :=
  let ⟨ω', e, x, h⟩ := rl.toRl0.frz g hH r
  ⟨ω', e, ⟨x, pin_ext rl e x.sub⟩, h⟩
theorem Rl.cut {ω0 : Wd} {S0 : Store} {H0 : Hp} (rl0 : Rl K T ω0 S0 H0) (rl : Rl K T ω S H) (e : Ext ω0 S0 H0 ω S H) : ∃ ω', Ext ω0 S0 H0 ω' (S.cut S0.L.length) H ∧ Rl K T ω' (S.cut S0.L.length) H ∧ (∀ d v, d.flat = true → Rp K T ω d v → Rp K T ω' d v) ∧ ω'.F = ω.F ∧
    (∀ ds vs, flats ds = true → Rps K T ω ds vs → Rps K T ω' ds vs) :=
  let ⟨ω', e', x, h⟩ := rl0.toRl0.cut rl.toRl0 e
  ⟨ω', e', ⟨x, pin_ext rl0 e' x.sub⟩, h⟩
end
section
variable {X : Cx} {T : Tx} {W : WX} {a b c e : Expr} {es : List Expr} {ta tb tc : Q.TE} {ts : List Q.TE} {pos : Pos}
theorem ge_mstr {id : String} {name : Str} {apos : Pos} {r : V → List V → Hp → VK → Prop} {f : OpN} (slot : Slot "str" name id) (ty : typeOf (.builtin id) = pure (.type "method_descriptor")) (rule : MtR X id r) (hf : OkN X.K T (fun xs H Qv => ∃ x ys, xs = x :: ys ∧ r x ys H Qv) f) (ho : GE X T W a ta) (he : GE X T W b tb)
    (hs : starEach [b] X.env = [(false, eval b X.env)] := by rfl) (hbase : attributeBase a name X.env (eval a X.env) = eval a X.env := by rfl) (hline : (apos.endLine == pos.line) = true := by rfl) :
    GE X T W (.Call (.Attribute a name apos) [b] [] pos) (eM isStrD f ta [tb]) := PE.imp (pe_m1 slot ty rule ho he hs hbase hline) fun σ H Qv ⟨s, S, ω, rl, rs, q⟩ => by
  refine ⟨s, S, ω, rl, rs, (EPg.bind q).mono ?_⟩
  rintro v H1 ⟨ω1, S1, d, e1, rl1, r1, q1⟩
  split at q1
  · cases d <;> try (rename_i z; cases z; done)
    refine ⟨⟨_, r1.str⟩, s, S1, ω1, rl1, rs.ext e1, ?_⟩
    rename_i z _
    cases e2 : tb s S1 with
    | ok d2 S2 =>
      have q2 : EPg X.K T (Rp X.K T.toTb) W σ ω1 S1 H1 (ofO (f [.str z, d2] S2)) Qv := by simpa [eArgs, e2, Res.bind] using q1
      intro ω2 H2 w e3 rl2 r2
      obtain ⟨x, ys, hxy, h⟩ := hf _ _ _ _ _ _ rl2 (Rps.cons (r1.ext e3) (Rps.cons r2 Rps.nil)) (PQ.of (EPg.shift e3 q2))
      cases hxy
      exact h
    | ex x S2 =>
      have q2 : EPg X.K T (Rp X.K T.toTb) W σ ω1 S1 H1 (.ex x S2) Qv := by simpa [eArgs, e2, Res.bind] using q1
      exact q2
    | err =>
      have q2 : EPg X.K T (Rp X.K T.toTb) W σ ω1 S1 H1 .err Qv := by simpa [eArgs, e2, Res.bind] using q1
      exact q2
  · exact q1.elim
theorem ok_join {K : PySem.W.Frag} : OkN K T (fun xs H Qv => ∃ x ys, xs = x :: ys ∧ (fun x xs H Qv => ∃ a p, ∃ ys : List Str, x = .str a ∧ xs = [.ref p] ∧ (SqL K H p (ys.map V.str) ∨ SqT K H p (ys.map V.str)) ∧ (ys.map (·.length)).sum + ys.length * a.length ≤ 16777216 ∧ Qv (.str (Txt.join a ys)) H) x ys H Qv) oJoin := by
  intro ω S H xs us Qv rl r q
  unfold oJoin at q
  split at q
  · obtain ⟨v, w, rfl, r1, r2⟩ := r.two
    split at q
    · split at q
      · obtain ⟨p, vs, rfl, h1, r3⟩ := Rp.lst rl r2
        have e := r3.strs ‹_›
        subst e
        exact ⟨_, _, rfl, _, p, _, r1.str, rfl, .inl (SqL.of h1), ‹_›, q.now rl (Rp.mstr _)⟩
      · exact q.elim
    · exact q.elim
  · exact q.elim
theorem ge_join {apos : Pos} (ho : GE X T W a ta) (he : GE X T W b tb) (hs : starEach [b] X.env = [(false, eval b X.env)] := by rfl) (hbase : attributeBase a "join" X.env (eval a X.env) = eval a X.env := by rfl) (hline : (apos.endLine == pos.line) = true := by rfl) :
    GE X T W (.Call (.Attribute a "join" apos) [b] [] pos) (eM isStrD oJoin ta [tb]) := ge_mstr F.slot_str_join F.type_str_join mt_join ok_join ho he hs hbase hline
theorem Ext.wasLive {ω ω' : Wd} {S S' : Store} {H H' : Hp} (e : Ext ω S H ω' S' H') {k : Nat} {es : List D} (hk : k < ω.n) (h : S'.get k = some es) : ∃ ds, S.get k = some ds := e.live k es hk h
theorem tBM_ok {r : V → List V → Hp → VK → Prop} {f : OpN} (hf : OkN X.K T (fun xs H Qv => ∃ x ys, xs = x :: ys ∧ r x ys H Qv) f) (σ : L2.St) (H : Hp) (Qv : VK) (h : tEr X.K T W (eM isLstD f ta ts) σ H Qv) : tBM X.K "list" r (tEr X.K T W ta) (tAr X.K T W (eArgs ts)) σ H Qv := by
  obtain ⟨s, S, ω, rl, rs, q⟩ := h
  refine ⟨s, S, ω, rl, rs, (EPg.bind q).mono ?_⟩
  rintro v H1 ⟨ω1, S1, d, e1, rl1, r1, q1⟩
  split at q1
  · rename_i hc
    unfold isLstD at hc
    cases g : itemsL S1 d with
    | none => rw [g] at hc; cases hc
    | some ds =>
      obtain ⟨p, vs, rfl, h1, _⟩ := Rp.itemsL rl1 r1 g
      refine ⟨.inl ⟨rfl, _, SqL.of h1⟩, s, S1, ω1, rl1, rs.ext e1, (EPg.bind q1).mono ?_⟩
      rintro ws H2 ⟨ω2, S2, es, e2, rl2, r2, q2⟩
      obtain ⟨x, ys, hxy, h⟩ := hf _ _ _ _ _ _ rl2 (Rps.cons (r1.ext e2) r2) (PQ.of q2)
      cases hxy
      exact h
  · exact q1.elim
theorem ge_mlst {id : String} {name : Str} {apos : Pos} {r : V → List V → Hp → VK → Prop} {f : OpN} (slot : Slot "list" name id) (hty : typeOf (.builtin id) = pure (.type "method_descriptor")) (hm : MtR X id r) (hf : OkN X.K T (fun xs H Qv => ∃ x ys, xs = x :: ys ∧ r x ys H Qv) f) (ho : GE X T W a ta) (ha : GA X T W (e :: es) ts)
    (hbase : attributeBase a name X.env (eval a X.env) = eval a X.env := by rfl)
    (hfew : ((backTo pos (starEach (e :: es) X.env)).all (fun x => !x.1) && (backToKw pos (keywordEach [] X.env)).all (fun x => x.1.isSome)
      && decide ((e :: es).length + ([] : List Keyword).length + (if ([] : List Keyword).isEmpty then 0 else 1) < 30)) = true := by rfl)
    (hline : (apos.endLine == pos.line) = true := by rfl) (hs : starEach (e :: es) X.env = (false, eval e X.env) :: starEach es X.env := by rfl) (hplain : (backTo pos (starEach es X.env)).any (·.1) = false := by rfl) :
    GE X T W (.Call (.Attribute a name apos) (e :: es) [] pos) (eM isLstD f ta ts) := PE.imp (pe_bm PySem.F.plainAttrs_list slot hty hm ho ha hbase hfew hline hs hplain) (tBM_ok hf)
theorem ge_mlst0 {id : String} {name : Str} {apos : Pos} {r : V → List V → Hp → VK → Prop} {f : OpN} (slot : Slot "list" name id) (hty : typeOf (.builtin id) = pure (.type "method_descriptor")) (hm : MtR X id r) (hf : OkN X.K T (fun xs H Qv => ∃ x ys, xs = x :: ys ∧ r x ys H Qv) f) (ho : GE X T W a ta)
    (hbase : attributeBase a name X.env (eval a X.env) = eval a X.env := by rfl) (hline : (apos.endLine == pos.line) = true := by rfl) :
    GE X T W (.Call (.Attribute a name apos) [] [] pos) (eM isLstD f ta []) := PE.imp (pe_bm0 PySem.F.plainAttrs_list slot hty hm ho hbase hline) fun σ H Qv h => by
  obtain ⟨s, S, ω, rl, rs, q⟩ := tBM_ok (ts := []) hf σ H Qv h
  refine ⟨s, S, ω, rl, rs, q.mono ?_⟩
  rintro v H1 ⟨h1, s2, S2, ω2, rl2, rs2, q2⟩
  exact ⟨h1, q2.now rl2 Rps.nil⟩
theorem flats_app {ds es : List D} : flats (ds ++ es) = (flats ds && flats es) := by
  induction ds with
  | nil => simp [flats]
  | cons d ds ih => simp [flats, ih, Bool.and_assoc]
theorem ok_append {K : PySem.W.Frag} : OkN K T (fun xs H Qv => ∃ x ys, xs = x :: ys ∧ rAppend x ys H Qv) oAppend := by
  intro ω S H xs us Qv rl r q
  unfold oAppend at q
  split at q
  · obtain ⟨v, w, rfl, r1, r2⟩ := r.two
    split at q
    · rename_i k d _ ds g
      split at q
      · rename_i hc
        rw [Bool.and_eq_true] at hc
        obtain ⟨p, vs, rfl, rfl, h1, r3⟩ := Rp.ptr rl r1 g
        have hf := (rl.obj k ds g).2.1
        have z := rl.put (es := ds ++ [d]) g (by rw [flats_app, hf]; simp [flats, hc.2]) (r3.append (Rps.cons r2 Rps.nil))
        exact ⟨_, _, rfl, _, _, _, rfl, rfl, h1, by rw [← r3.length]; exact of_decide_eq_true hc.1, q ω _ _ z.1 z.2 Rp.mnon⟩
      · exact q.elim
    · exact q.elim
  · exact q.elim
theorem flats_all {ds : List D} : flats ds = true ↔ ∀ d ∈ ds, d.flat = true := by
  induction ds with
  | nil => simp [flats]
  | cons d ds ih => simp [flats, ih]
theorem flats_sub {ds es : List D} (h : flats ds = true) (s : ∀ d ∈ es, d ∈ ds) : flats es = true := flats_all.mpr fun d hd => flats_all.mp h d (s d hd)
theorem ok_pop {K : PySem.W.Frag} : OkN K T (fun xs H Qv => ∃ x ys, xs = x :: ys ∧ rPop x ys H Qv) oPop := by
  intro ω S H xs us Qv rl r q
  unfold oPop at q
  split at q
  · obtain ⟨v, rfl, r1⟩ := r.one
    split at q
    · rename_i k _ ds g
      split at q
      · rename_i d hd
        obtain ⟨p, vs, rfl, rfl, h1, r3⟩ := Rp.ptr rl r1 g
        have hf := (rl.obj k ds g).2.1
        obtain ⟨w, hw, rw'⟩ := r3.get hd
        have z := rl.put (es := ds.dropLast) g (flats_sub hf fun d hd => List.dropLast_subset _ hd) r3.dropLast
        exact ⟨_, _, rfl, _, _, w, rfl, rfl, h1, by rw [← r3.length]; exact hw, q ω _ _ z.1 z.2 (rw'.ext z.1)⟩
      · exact q.elim
    · exact q.elim
  · exact q.elim
def rSlB (K : PySem.W.Frag) : V → Option Int → Option Int → Hp → VK → Prop := fun x lo hi H Qv => rSlL K x lo hi H Qv ∨ rSlS x lo hi H Qv ∨ rSlA K x lo hi H Qv
theorem or_sl : SlR X (rSlB X.K) := sl_list.or (sl_str.or sl_tupA)
theorem Rps.cut {K : PySem.W.Frag} {T : Tb} {ω : Wd} {ds : List D} {vs : List V} (r : Rps K T ω ds vs) (lo hi : Option Int) : Rps K T ω (cutD ds lo hi) (cutV vs lo hi) := by
  unfold cutD cutV
  rw [r.length]
  exact (r.drop _).take _
theorem cutD_map {α β : Type} (f : α → β) (xs : List α) (lo hi : Option Int) : cutD (xs.map f) lo hi = (cutD xs lo hi).map f := by
  unfold cutD
  rw [List.length_map, List.map_take, List.map_drop]
theorem cutV_eq (vs : List V) (lo hi : Option Int) : cutV vs lo hi = cutD vs lo hi := rfl
theorem cut_str (z : Str) (lo hi : Option Int) : cutS z lo hi = ⟨(cutD z.cps.toList lo hi).toArray⟩ := by
  unfold cutS cutD
  simp [Str.length]
theorem ok_cut {K : PySem.W.Frag} {ω : Wd} {S : Store} {H : Hp} {d : D} {v : V} {lo hi : Option Int} {Qv : VK} (rl : Rl K T.toTb ω S H) (r : Rp K T.toTb ω d v) (q : PQ K T ω S H (oCut d lo hi S) Qv) : rSlB K v lo hi H Qv := by
  unfold oCut at q
  split at q
  · obtain ⟨a, vs, rfl, h, r1⟩ := Rp.lst rl r
    exact .inl ⟨a, vs, rfl, SqL.of h, q.newLst rl (r1.cut lo hi)⟩
  · unfold Rp at r
    obtain ⟨a, vs, rfl, h, r1⟩ := r
    refine .inr (.inr ⟨a, vs, rfl, Same.seqT rl.sub h, fun hw => ?_, fun _ => q.newTup rl (r1.cut lo hi)⟩)
    have e : ∀ {α : Type} (ys : List α), ys.length = vs.length → cutD ys lo hi = ys := fun ys hl => by
      unfold cutD
      rw [hl, hw.1, hw.2, List.drop_zero, Nat.sub_zero, ← hl, List.take_length]
    rw [e _ r1.length] at q
    exact q.now rl (Rp.mtup h r1)
  · obtain ⟨a, rfl, h⟩ := Rp.src rl r
    refine .inl ⟨a, _, rfl, h, q.newLst rl ?_⟩
    rw [cutV_eq, cutD_map]
    exact Rps.of_ints _
  · rw [r.str]
    split at q
    · exact .inr (.inl ⟨_, rfl, ‹_›, by rw [cut_str]; exact q.now rl (Rp.mstr _)⟩)
    · exact q.elim
  · exact q.elim
theorem part_ok {ω : Wd} {d : D} {v : V} {S : Store} {σ : L2.St} {H : Hp} {Qv : VK} {k : Option Int → Store → Res D} (r : Rp X.K T.toTb ω d v) (q : EPg X.K T (Rp X.K T.toTb) W σ ω S H (partK k d S) Qv) :
    ∃ i, v = .int i ∧ EPg X.K T (Rp X.K T.toTb) W σ ω S H (k (some i) S) Qv := by
  cases d <;> try exact q.elim
  exact ⟨_, r.int, q⟩
theorem ge_cutL {lo : Expr} {tl : Q.TE} {p2 : Pos} (ha : GE X T W a ta) (hl : GE X T W lo tl) : GE X T W (.Subscript a (.Slice (some lo) none none p2) pos) (eCutL ta tl) := PE.imp (pe_slice or_sl ha (po_some hl) po_none) fun σ H Qv ⟨s, S, ω, rl, rs, q⟩ => by
  refine ⟨s, S, ω, rl, rs, (EPg.bind q).mono ?_⟩
  rintro v H1 ⟨ω1, S1, d, e1, rl1, r1, q1⟩
  refine ⟨s, S1, ω1, rl1, rs.ext e1, (EPg.bind q1).mono ?_⟩
  rintro w H2 ⟨ω2, S2, d2, e2, rl2, r2, q2⟩
  obtain ⟨i, rfl, q3⟩ := part_ok r2 q2
  exact ⟨i, rfl, ok_cut rl2 (r1.ext e2) (PQ.of q3)⟩
theorem ge_cutU {hi : Expr} {th : Q.TE} {p2 : Pos} (ha : GE X T W a ta) (hl : GE X T W hi th) : GE X T W (.Subscript a (.Slice none (some hi) none p2) pos) (eCutU ta th) := PE.imp (pe_slice or_sl ha po_none (po_some hl)) fun σ H Qv ⟨s, S, ω, rl, rs, q⟩ => by
  refine ⟨s, S, ω, rl, rs, (EPg.bind q).mono ?_⟩
  rintro v H1 ⟨ω1, S1, d, e1, rl1, r1, q1⟩
  refine ⟨s, S1, ω1, rl1, rs.ext e1, (EPg.bind q1).mono ?_⟩
  rintro w H2 ⟨ω2, S2, d2, e2, rl2, r2, q2⟩
  obtain ⟨i, rfl, q3⟩ := part_ok r2 q2
  exact ⟨i, rfl, ok_cut rl2 (r1.ext e2) (PQ.of q3)⟩
theorem ge_cutLU {lo hi : Expr} {tl th : Q.TE} {p2 : Pos} (ha : GE X T W a ta) (hl : GE X T W lo tl) (hh : GE X T W hi th) : GE X T W (.Subscript a (.Slice (some lo) (some hi) none p2) pos) (eCutLU ta tl th) := PE.imp (pe_slice or_sl ha (po_some hl) (po_some hh)) fun σ H Qv ⟨s, S, ω, rl, rs, q⟩ => by
  refine ⟨s, S, ω, rl, rs, (EPg.bind q).mono ?_⟩
  rintro v H1 ⟨ω1, S1, d, e1, rl1, r1, q1⟩
  refine ⟨s, S1, ω1, rl1, rs.ext e1, (EPg.bind q1).mono ?_⟩
  rintro w H2 ⟨ω2, S2, d2, e2, rl2, r2, q2⟩
  obtain ⟨i, rfl, q3⟩ := part_ok r2 q2
  refine ⟨i, rfl, s, S2, ω2, rl2, (rs.ext e1).ext e2, (EPg.bind q3).mono ?_⟩
  rintro u H3 ⟨ω3, S3, d3, e3, rl3, r3, q4⟩
  obtain ⟨j, rfl, q5⟩ := part_ok r3 q4
  exact ⟨j, rfl, ok_cut rl3 ((r1.ext e2).ext e3) (PQ.of q5)⟩
end
end Q
set_option maxHeartbeats 1000000
namespace Q
open PySem PySem.Spec PyProof.Rows L2
theorem Rp.late {K : PySem.W.Frag} {T : Tb} {ω ω' : Wd} {d : D} {v : V} (h : Rp K T ω d v) (e : Later ω ω') : Rp K T ω' d v := Rp.mono e.fix e.al e.len e.ao e.lenO d v h
theorem Rps.late {K : PySem.W.Frag} {T : Tb} {ω ω' : Wd} {d : List D} {v : List V} (h : Rps K T ω d v) (e : Later ω ω') : Rps K T ω' d v := Rps.mono e.fix e.al e.len e.ao e.lenO d v h
def Gives (K : PySem.W.Frag) (T : Tx) (ω : Wd) (ds : List D) (J : It) : Prop :=
  ∃ G Y, Walk J ds.length G Y ∧ (∀ H, Same ω.F H → G H) ∧ ∀ (i : Nat) d ω1 S1 Hx x Hy, ds[i]? = some d → Later ω ω1 → Rl K T.toTb ω1 S1 Hx → Y i Hx x Hy → ∃ ω2, Ext ω1 S1 Hx ω2 S1 Hy ∧ Rl K T.toTb ω2 S1 Hy ∧ Rp K T.toTb ω2 d x
def tIr (K : PySem.W.Frag) (T : Tx) (W : WX) (src : Src) : TI := fun σ H R => ∃ s S ω, Rl K T.toTb ω S H ∧ Rs K T.toTb ω s σ ∧ EPg K T (Gives K T) W σ ω S H (src s S) R
def GI (X : Cx) (T : Tx) (W : WX) (tg iter : Expr) (src : Src) : Prop := PI X tg iter (tIr X.K T W src)
theorem PI.imp {X : Cx} {tg e : Expr} {t t' : TI} (h : PI X tg e t) (i : ∀ σ H R, t' σ H R → t σ H R) : PI X tg e t' := ⟨fun pins s σ H R I q => h.run pins s σ H R I (i _ _ _ q)⟩
theorem PI.or {X : Cx} {tg e : Expr} {t t' : TI} (h : PI X tg e t) (h' : PI X tg e t') : PI X tg e (fun σ H R => t σ H R ∨ t' σ H R) := ⟨fun pins s σ H R I q => q.elim (h.run pins s σ H R I) (h'.run pins s σ H R I)⟩
section
variable {K : PySem.W.Frag} {T : Tx} {ω : Wd}
theorem gives_at {J : It} {ds : List D} {vs : List V} {G : Hp → Prop} (r : Rps K T.toTb ω ds vs) (w : Walk J vs.length G (YAt vs)) (g : ∀ H, Same ω.F H → G H) : Gives K T ω ds J := by
  refine ⟨G, YAt vs, by rw [r.length]; exact w, g, fun i d ω1 S1 Hx x Hy hd lt rl y => ?_⟩
  obtain ⟨rfl, hx⟩ := y
  obtain ⟨v, hv, rv⟩ := r.get hd
  rw [hx] at hv
  cases hv
  exact ⟨ω1, Ext.refl, rl, rv.late lt⟩
theorem gives_list {ds : List D} {vs : List V} {a : Addr} (h : ω.F a = some (.lst vs)) (r : Rps K T.toTb ω ds vs) : Gives K T ω ds (Itl K a) := gives_at r walk_list fun _ s => SqL.of (s _ _ h)
theorem gives_tup {ds : List D} {vs : List V} {a : Addr} (h : SqT K ω.F a vs) (r : Rps K T.toTb ω ds vs) : Gives K T ω ds (Itt K a) := gives_at r walk_tup fun _ s => Same.seqT s h
theorem gives_str {z : Str} : Gives K T ω (z.cps.toList.map fun c => .str ⟨#[c]⟩) (Its z) := by
  refine ⟨_, _, by rw [List.length_map, Array.length_toList]; exact walk_str, fun _ _ => trivial, fun i d ω1 S1 Hx x Hy hd lt rl y => ?_⟩
  obtain ⟨rfl, c, hc, rfl⟩ := y
  rw [List.getElem?_map] at hd
  have e : z.cps.toList[i]? = some c := by simpa using hc
  rw [e] at hd
  cases hd
  exact ⟨ω1, Ext.refl, rl, Rp.mstr _⟩
theorem gives_rng {lo : Int} {n : Nat} : Gives K T ω (rngL lo n) (Itr lo n) := by
  have hl : (rngL lo n).length = n := by simp [rngL]
  refine ⟨_, _, by rw [hl]; exact walk_range, fun _ _ => trivial, fun i d ω1 S1 Hx x Hy hd lt rl y => ?_⟩
  obtain ⟨rfl, rfl⟩ := y
  have hi : i < n := by
    have := (List.getElem?_eq_some_iff.mp hd).1
    rw [hl] at this; exact this
  unfold rngL at hd
  rw [List.getElem?_map, List.getElem?_range hi] at hd
  cases hd
  exact ⟨ω1, Ext.refl, rl, Rp.mint _⟩
theorem gives_pair {J : It} {ds es fs : List D} {n : Nat} {xs ys : Nat → Option V} {G : Hp → Prop} (hf : fs = List.zipWith (fun d e => .tup [d, e]) ds es) (hn : fs.length = n) (w : Walk J n G (YPair xs ys)) (g : ∀ H, Same ω.F H → G H)
    (hx : ∀ (i : Nat) d v, ds[i]? = some d → xs i = some v → Rp K T.toTb ω d v) (hy : ∀ (i : Nat) d v, es[i]? = some d → ys i = some v → Rp K T.toTb ω d v) : Gives K T ω fs J := by
  refine ⟨G, _, by rw [hn]; exact w, g, fun i d ω1 S1 Hx x Hy hd lt rl y => ?_⟩
  obtain ⟨A, u, v, rfl, hA, rfl, e1, e2⟩ := y
  subst hf
  rw [List.getElem?_zipWith] at hd
  cases h1 : ds[i]? with
  | none => rw [h1] at hd; simp at hd
  | some d1 => cases h2 : es[i]? with
    | none => rw [h1, h2] at hd; simp at hd
    | some d2 =>
      rw [h1, h2] at hd
      simp at hd
      subst hd
      obtain ⟨ω2, ex, rl2, hF⟩ := Rl.laid rl hA (.tup [u, v])
      exact ⟨ω2, ex, rl2, Rp.mtup (SqT.of hF) (Rps.cons (((hx i d1 u h1 e1).late lt).ext ex) (Rps.cons (((hy i d2 v h2 e2).late lt).ext ex) Rps.nil))⟩
theorem walk_zipT {K : PySem.W.Frag} {a b : Addr} {xs ys : List V} {n : Nat} (hn : n = min xs.length ys.length) : Walk (RZ.ItzT K a b) n (fun H => SqT K H a xs ∧ SqT K H b ys) (YPair (fun i => xs[i]?) (fun i => ys[i]?)) := by
  subst hn
  refine ⟨fun i _ hi q => ?_, fun _ q => ⟨xs, ys, q.1, q.2, by omega⟩, fun i H v H' _ q y => ?_⟩
  · have h1 : i < xs.length := by omega
    have h2 : i < ys.length := by omega
    exact ⟨xs, ys, xs[i], ys[i], q.1, q.2, by simp [h1], by simp [h2]⟩
  · obtain ⟨A, x, z, h1, h2, h3, h4, h5⟩ := y
    exact ⟨A, x, z, h1, h2, h3, h4 xs q.1, h5 ys q.2⟩
end
section
variable {X : Cx} {T : Tx} {W : WX} {a b c e tg : Expr} {es : List Expr} {ta tb tc : Q.TE} {ts : List Q.TE} {pos : Pos}
theorem gi_seq (ha : GE X T W a ta) : GI X T W tg a (sSeq ta) := PI.imp (PI.or (pi_list ha) (PI.or (pi_tup ha) (pi_str ha))) fun σ H R ⟨s, S, ω, rl, rs, q⟩ => by
  cases e0 : ta s S with
  | ok d S1 =>
    unfold sSeq at q
    rw [e0] at q
    cases d with
    | lst ds =>
      refine .inl ⟨s, S, ω, rl, rs, ?_⟩
      rw [e0]
      intro ω' H' v ex rl' r
      unfold Rp at r
      obtain ⟨p, vs, rfl, h1, r1⟩ := r
      exact ⟨p, rfl, ⟨vs, SqL.of (rl'.sub _ _ h1)⟩, q ω' H' _ ex rl' (gives_list h1 r1)⟩
    | tup ds =>
      refine .inr (.inl ⟨s, S, ω, rl, rs, ?_⟩)
      rw [e0]
      intro ω' H' v ex rl' r
      unfold Rp at r
      obtain ⟨p, vs, rfl, h1, r1⟩ := r
      exact ⟨p, rfl, ⟨vs, Same.seqT rl'.sub h1⟩, q ω' H' _ ex rl' (gives_tup h1 r1)⟩
    | str z =>
      refine .inr (.inr ⟨s, S, ω, rl, rs, ?_⟩)
      rw [e0]
      intro ω' H' v ex rl' r
      exact ⟨z, r.str, q ω' H' _ ex rl' gives_str⟩
    | _ => exact q.elim
  | ex x S1 =>
    unfold sSeq at q
    rw [e0] at q
    refine .inl ⟨s, S, ω, rl, rs, ?_⟩
    rw [e0]
    exact q
  | err =>
    unfold sSeq at q
    rw [e0] at q
    exact q.elim
def OkI (K : PySem.W.Frag) (T : Tx) (p : List V → Hp → (It → Hp → Prop) → Prop) (f : List D → Option (List D)) : Prop := ∀ ω S H xs us R ds, Rl K T.toTb ω S H → Rps K T.toTb ω xs us → f xs = some ds → (∀ J, Gives K T ω ds J → R J H) → p us H R
theorem gi_N {p : List V → Hp → (It → Hp → Prop) → Prop} {f : List D → Option (List D)} (h : PI X tg e (fun σ H R => tAr X.K T W (eArgs ts) σ H fun vs H1 => p vs H1 R)) (hf : OkI X.K T p f) : GI X T W tg e (sN f ts) := PI.imp h fun σ H R ⟨s, S, ω, rl, rs, q⟩ => by
  refine ⟨s, S, ω, rl, rs, (EPg.bind q).mono ?_⟩
  rintro vs H1 ⟨ω1, S1, ds, e1, rl1, r1, q1⟩
  split at q1
  · exact hf _ _ _ _ _ _ _ rl1 r1 ‹_› fun J g => q1 ω1 H1 J Ext.refl rl1 g
  · exact q1.elim
theorem gi_rng1 {p : Pos} (hg : Gl X "range") (hm : X.mg "range" = none) (ha : GA X T W [a] ts) (hs : starEach [a] X.env = [(false, eval a X.env)] := by rfl) : GI X T W tg (.Call (.Name "range" p) [a] [] pos) (sN iRng1 ts) :=
  gi_N (p := fun vs H1 R => ∃ j : Int, vs = [.int j] ∧ -(2 ^ 62) ≤ j ∧ j < 2 ^ 62 ∧ R (Itr 0 j.toNat) H1) (pi_range1 hg hm ha hs) (by
    intro ω S H xs us R ds rl r e k
    unfold iRng1 at e
    split at e
    · split at e
      · rename_i j h
        cases e
        simp only [rngOk, Bool.and_eq_true, decide_eq_true_eq] at h
        obtain ⟨v, rfl, r1⟩ := r.one
        exact ⟨j, by rw [r1.int], h.1, h.2, k _ gives_rng⟩
      · cases e
    · cases e)
theorem gi_rng2 {p : Pos} (hg : Gl X "range") (hm : X.mg "range" = none) (ha : GA X T W [a, b] ts) (hs : starEach [a, b] X.env = [(false, eval a X.env), (false, eval b X.env)] := by rfl) (hs2 : starEach [b] X.env = [(false, eval b X.env)] := by rfl) :
    GI X T W tg (.Call (.Name "range" p) [a, b] [] pos) (sN iRng2 ts) :=
  gi_N (p := fun vs H1 R => ∃ i j : Int, vs = [.int i, .int j] ∧ (-(2 ^ 62) ≤ i ∧ i < 2 ^ 62 ∧ -(2 ^ 62) ≤ j ∧ j < 2 ^ 62) ∧ R (Itr i (j - i).toNat) H1) (pi_range2 hg hm ha hs hs2) (by
    intro ω S H xs us R ds rl r e k
    unfold iRng2 at e
    split at e
    · split at e
      · rename_i i j h
        cases e
        simp only [rngOk, Bool.and_eq_true, decide_eq_true_eq] at h
        obtain ⟨v, w, rfl, r1, r2⟩ := r.two
        exact ⟨i, j, by rw [r1.int, r2.int], ⟨h.1.1, h.1.2, h.2.1, h.2.2⟩, k _ gives_rng⟩
      · cases e
    · cases e)
theorem gi_enumL {p tpos : Pos} {elts : List Expr} {kk : Nat} (hg : Gl X "enumerate") (hm : X.mg "enumerate" = none) (ha : GA X T W [a] ts) (hs : starEach [a] X.env = [(false, eval a X.env)] := by rfl) :
    GI X T W (.Tuple elts kk tpos) (.Call (.Name "enumerate" p) [a] [] pos) (sN iEnumL ts) :=
  gi_N (p := fun vs H1 R => ∃ a xs, vs = [.ref a] ∧ SqL X.K H1 a xs ∧ R (Ite X.K a) H1) (pi_enum hg hm ha hs) (by
    intro ω S H xs us R ds rl r e k
    unfold Q.iEnumL at e
    split at e
    · rename_i xs
      cases e
      obtain ⟨v, rfl, r1⟩ := r.one
      unfold Rp at r1
      obtain ⟨p, vs, rfl, h1, r2⟩ := r1
      refine ⟨p, vs, rfl, SqL.of (rl.sub _ _ h1), k _ (gives_pair (ds := (List.range xs.length).map fun (i : Nat) => D.int i) (es := xs) (n := vs.length) ?_ ?_ walk_enum (fun _ s => SqL.of (s _ _ h1)) ?_ ?_)⟩
      · rw [List.zipWith_map_left]
      · simp [r2.length]
      · intro i d v hd hv
        cases hv
        have hi : i < xs.length := by
          have := (List.getElem?_eq_some_iff.mp hd).1
          simpa using this
        rw [List.getElem?_map, List.getElem?_range hi] at hd
        cases hd
        exact Rp.mint _
      · intro i d v hd hv
        obtain ⟨w, hw, rw'⟩ := r2.get hd
        rw [hw] at hv
        cases hv
        exact rw'
    · cases e)
theorem gi_zipA {p tpos : Pos} {elts : List Expr} {kk : Nat} (hg : Gl X "zip") (hm : X.mg "zip" = none) (ha : GA X T W [a, b] ts)
    (hs : starEach [a, b] X.env = (false, eval a X.env) :: starEach [b] X.env := by rfl) (hpl : (backTo pos (starEach [b] X.env)).any (·.1) = false := by rfl) :
    GI X T W (.Tuple elts kk tpos) (.Call (.Name "zip" p) [a, b] [] pos) (sN iZipA ts) :=
  gi_N (p := fun vs H1 R => ∃ a b xs ys, vs = [.ref a, .ref b] ∧ ((SqL X.K H1 a xs ∧ SqL X.K H1 b ys ∧ R (Itz X.K a b) H1) ∨ (SqT X.K H1 a xs ∧ SqT X.K H1 b ys ∧ R (RZ.ItzT X.K a b) H1))) (RZ.pi_zipA hg hm ha hs hpl) (by
    intro ω S H xs us R ds rl r e k
    have at_ : ∀ {es : List D} {ws : List V}, Rps X.K T.toTb ω es ws → ∀ (i : Nat) d v, es[i]? = some d → ws[i]? = some v → Rp X.K T.toTb ω d v := fun {es ws} r2 i d v hd hv => by
      obtain ⟨w, hw, rw'⟩ := r2.get hd
      rw [hw] at hv
      cases hv
      exact rw'
    unfold Q.iZipA at e
    split at e
    · rename_i xs ys
      cases e
      obtain ⟨v, w, rfl, r1, r2⟩ := r.two
      unfold Rp at r1 r2
      obtain ⟨p, vs, rfl, h1, r1⟩ := r1
      obtain ⟨q, ws, rfl, h2, r2⟩ := r2
      exact ⟨p, q, vs, ws, rfl, .inl ⟨SqL.of (rl.sub _ _ h1), SqL.of (rl.sub _ _ h2), k _ (gives_pair (ds := xs) (es := ys) (n := min vs.length ws.length) rfl (by simp [r1.length, r2.length]) (walk_zip rfl) (fun _ s => ⟨SqL.of (s _ _ h1), SqL.of (s _ _ h2)⟩) (at_ r1) (at_ r2))⟩⟩
    · rename_i xs ys
      cases e
      obtain ⟨v, w, rfl, r1, r2⟩ := r.two
      unfold Rp at r1 r2
      obtain ⟨p, vs, rfl, h1, r1⟩ := r1
      obtain ⟨q, ws, rfl, h2, r2⟩ := r2
      exact ⟨p, q, vs, ws, rfl, .inr ⟨Same.seqT rl.sub h1, Same.seqT rl.sub h2, k _ (gives_pair (ds := xs) (es := ys) (n := min vs.length ws.length) rfl (by simp [r1.length, r2.length]) (walk_zipT rfl) (fun _ s => ⟨Same.seqT s h1, Same.seqT s h2⟩) (at_ r1) (at_ r2))⟩⟩
    · cases e)
theorem wipe_set_in {σ : L2.St} {i : Nat} {x : Option V} : ∀ {vs : List Nat}, i ∈ vs → wipe (σ.set i x) vs = wipe σ vs
  | [], h => by simp at h
  | v :: vs, h => by
    unfold wipe
    by_cases hv : i = v
    · subst hv
      by_cases hi : i ∈ vs
      · rw [wipe_set_in hi]
      · have out : ∀ (ws : List Nat), i ∉ ws → wipe (σ.set i x) ws = (wipe σ ws).set i x := by
          intro ws
          induction ws with
          | nil => intro _; rfl
          | cons w ws ih =>
            intro hw
            unfold wipe
            rw [ih fun z => hw (List.mem_cons_of_mem _ z), List.set_comm _ _ (fun z => hw (by rw [z]; exact List.mem_cons_self))]
        rw [out vs hi, List.set_set]
    · rcases List.mem_cons.mp h with z | z
      · exact absurd z hv
      · rw [wipe_set_in z]
def tGr (K : PySem.W.Frag) (T : Tx) (p : Pat) : TG := fun v σ H Qv => ∃ s S ω d s1, Rl K T.toTb ω S H ∧ Rs K T.toTb ω s σ ∧ Rp K T.toTb ω d v ∧ p.put d s = some s1 ∧
  ∀ σ1, Rs K T.toTb ω s1 σ1 → (∀ vs, (∀ i ∈ p.slots, i ∈ vs) → wipe σ1 vs = wipe σ vs) → Qv σ1 H
def tGrs (K : PySem.W.Frag) (T : Tx) (ps : List Pat) : TGs := fun us σ H Qv => ∃ s S ω ds s1, Rl K T.toTb ω S H ∧ Rs K T.toTb ω s σ ∧ Rps K T.toTb ω ds us ∧ Pat.puts ps ds s = some s1 ∧
  ∀ σ1, Rs K T.toTb ω s1 σ1 → (∀ vs, (∀ i ∈ Pat.slotss ps, i ∈ vs) → wipe σ1 vs = wipe σ vs) → Qv σ1 H
def GP (X : Cx) (T : Tx) (tg : Expr) (p : Pat) : Prop := PG X tg (tGr X.K T p)
def GPs (X : Cx) (T : Tx) (ts : List Expr) (ps : List Pat) : Prop := PGs X ts (tGrs X.K T ps)
theorem PG.imp {X : Cx} {e : Expr} {t t' : TG} (h : PG X e t) (i : ∀ v σ H Qv, t' v σ H Qv → t v σ H Qv) : PG X e t' := ⟨fun pins s σ H v u Qv I r q => h.run pins s σ H v u Qv I r (i _ _ _ _ q)⟩
theorem PGs.imp {X : Cx} {e : List Expr} {t t' : TGs} (h : PGs X e t) (i : ∀ v σ H Qv, t' v σ H Qv → t v σ H Qv) : PGs X e t' := ⟨fun pins s σ H v u Qv I r q => h.run pins s σ H v u Qv I r (i _ _ _ _ q)⟩
theorem gp_name {i : Nat} (h : PG X tg (gName i)) : GP X T tg (.nm i) := PG.imp h fun v σ H Qv ⟨s, S, ω, d, s1, rl, rs, r, hp, k⟩ => by
  unfold Pat.put at hp
  cases hp
  exact k _ (rs.set r i) fun vs hv => wipe_set_in (hv i (by unfold Pat.slots; exact List.mem_singleton.mpr rfl))
theorem gps_nil : GPs X T [] [] := PGs.imp pgs_nil fun us σ H Qv ⟨s, S, ω, ds, s1, rl, rs, r, hp, k⟩ => by
  cases ds with
  | nil =>
    unfold Pat.puts at hp
    cases hp
    unfold Rps at r
    exact ⟨r, k σ rs fun _ _ => rfl⟩
  | cons d ds => simp [Pat.puts] at hp
theorem gps_cons {p : Pat} {ps : List Pat} (h1 : GP X T e p) (h2 : GPs X T es ps) (hs : (assignEach (e :: es) X.env).map (·.2) = assign e X.env :: (assignEach es X.env).map (·.2) := by rfl) : GPs X T (e :: es) (p :: ps) := PGs.imp (pgs_cons h1 h2 hs) fun us σ H Qv ⟨s, S, ω, ds, s1, rl, rs, r, hp, k⟩ => by
  cases ds with
  | nil => simp [Pat.puts] at hp
  | cons d ds =>
    unfold Rps at r
    obtain ⟨v, ws, rfl, r1, r2⟩ := r
    unfold Pat.puts at hp
    cases e1 : p.put d s with
    | none => rw [e1] at hp; cases hp
    | some s2 =>
      rw [e1] at hp
      refine ⟨v, ws, rfl, s, S, ω, d, s2, rl, rs, r1, e1, fun σ1 rs1 w1 => ⟨s2, S, ω, ds, s1, rl, rs1, r2, hp, fun σ2 rs2 w2 => ?_⟩⟩
      refine k σ2 rs2 fun vs hv => ?_
      unfold Pat.slotss at hv
      rw [w2 vs fun i hi => hv i (List.mem_append_right _ hi), w1 vs fun i hi => hv i (List.mem_append_left _ hi)]
theorem puts_len : ∀ {ps : List Pat} {ds : List D} {s s1 : Sl}, Pat.puts ps ds s = some s1 → ds.length = ps.length
  | [], [], _, _, _ => rfl
  | [], _ :: _, _, _, h => by simp [Pat.puts] at h
  | _ :: _, [], _, _, h => by simp [Pat.puts] at h
  | p :: ps, d :: ds, s, s1, h => by
    unfold Pat.puts at h
    split at h
    · simp [puts_len h]
    · cases h
theorem gp_tup {ps : List Pat} {k : Nat} (hc : X.calm = true) (h : GPs X T es ps) (hn : (assignEach es X.env).length = ps.length := by rfl) (hst : (assignEach es X.env).findIdx? (·.1) = none := by rfl) : GP X T (.Tuple es k pos) (.tp ps) := PG.imp (pg_tup hc h hn hst) fun v σ H Qv ⟨s, S, ω, d, s1, rl, rs, r, hp, k⟩ => by
  cases d <;> try (simp [Pat.put] at hp; done)
  unfold Pat.put at hp
  obtain ⟨a, vs, rfl, h1, r1⟩ := Rp.tup rl r
  refine ⟨a, vs, rfl, h1, by rw [← r1.length]; exact puts_len hp, s, S, ω, _, s1, rl, rs, r1, hp, fun σ1 rs1 w => k σ1 rs1 fun vs hv => w vs fun i hi => hv i (by unfold Pat.slots; exact hi)⟩
def SPg (K : PySem.W.Frag) (T : Tx) (W : WX) (Dn : Ends) (ω : Wd) (S : Store) (H : Hp) (r : RS) : Prop := match r with
  | some (.nx s', S') => ∀ ω' σ' H', Ext ω S H ω' S' H' → Rl K T.toTb ω' S' H' → Rs K T.toTb ω' s' σ' → Dn.nx σ' H'
  | some (.bk s', S') => ∀ ω' σ' H', Ext ω S H ω' S' H' → Rl K T.toTb ω' S' H' → Rs K T.toTb ω' s' σ' → Dn.bk σ' H'
  | some (.ct s', S') => ∀ ω' σ' H', Ext ω S H ω' S' H' → Rl K T.toTb ω' S' H' → Rs K T.toTb ω' s' σ' → Dn.ct σ' H'
  | some (.ret d, S') => ∀ ω' H' v, Ext ω S H ω' S' H' → Rl K T.toTb ω' S' H' → Rp K T.toTb ω' d v → Dn.rt v H'
  | some (.ex e s', S') => ∀ ω' σ' H' cls dd, Ext ω S H ω' S' H' → Rl K T.toTb ω' S' H' → Rs K T.toTb ω' s' σ' → ExR K T ω' e cls dd → W cls dd σ' H'
  | none => False
theorem SPg.shift {K : PySem.W.Frag} {Dn : Ends} {ω ω1 : Wd} {S S1 : Store} {H H1 : Hp} {r : RS} (e : Ext ω S H ω1 S1 H1) (h : SPg K T W Dn ω S H r) : SPg K T W Dn ω1 S1 H1 r := by
  cases r with
  | none => exact h
  | some p =>
    obtain ⟨f, S'⟩ := p
    cases f with
    | nx s => exact fun ω' σ' H' x => h ω' σ' H' (e.trans x)
    | bk s => exact fun ω' σ' H' x => h ω' σ' H' (e.trans x)
    | ct s => exact fun ω' σ' H' x => h ω' σ' H' (e.trans x)
    | ret d => exact fun ω' H' v x => h ω' H' v (e.trans x)
    | ex q s => exact fun ω' σ' H' c d x => h ω' σ' H' c d (e.trans x)
def tSr (K : PySem.W.Frag) (T : Tx) (W : WX) (t : TSt) : L2.TS := fun Dn σ H => ∃ s S ω, Rl K T.toTb ω S H ∧ Rs K T.toTb ω s σ ∧ SPg K T W Dn ω S H (t s S)
def GS (X : Cx) (T : Tx) (W : WX) (st : Stmt) (t : TSt) : Prop := PS X st (tSr X.K T W t)
def GSs (X : Cx) (T : Tx) (W : WX) (st : List Stmt) (t : TSt) : Prop := PSs X st (tSr X.K T W t)
theorem PS.imp {X : Cx} {e : Stmt} {t t' : L2.TS} (h : PS X e t) (i : ∀ D σ H, t' D σ H → t D σ H) : PS X e t' := ⟨fun pins s σ H D I q => h.run pins s σ H D I (i _ _ _ q)⟩
theorem PSs.imp {X : Cx} {e : List Stmt} {t t' : L2.TS} (h : PSs X e t) (i : ∀ D σ H, t' D σ H → t D σ H) : PSs X e t' := ⟨fun pins s σ H D I q => h.run pins s σ H D I (i _ _ _ q)⟩
theorem onE_ok {K : PySem.W.Frag} {Dn : Ends} {σ : L2.St} {ω : Wd} {S : Store} {H : Hp} {r : Res D} {s : Sl} {k : D → Store → RS} (rs : Rs K T.toTb ω s σ) (h : SPg K T W Dn ω S H (onE r s k)) :
    EPg K T (Rp K T.toTb) W σ ω S H r (fun v H1 => ∃ ω1 S1 d, Ext ω S H ω1 S1 H1 ∧ Rl K T.toTb ω1 S1 H1 ∧ Rp K T.toTb ω1 d v ∧ SPg K T W Dn ω1 S1 H1 (k d S1)) := by
  cases r with
  | ok d S' => exact fun ω' H' v e rl r => ⟨ω', S', d, e, rl, r, SPg.shift e h⟩
  | ex q S' => exact fun ω' H' c dd e rl x => h ω' σ H' c dd e rl (rs.ext e) x
  | err => exact h
variable {st : Stmt} {rest body : List Stmt} {t u : TSt}
theorem gs_pass : GS X T W (.Pass pos) tPass := PS.imp ps_pass fun D σ H ⟨s, S, ω, rl, rs, q⟩ => q ω σ H Ext.refl rl rs
theorem gs_break : GS X T W (.Break pos) tBrk := PS.imp ps_break fun D σ H ⟨s, S, ω, rl, rs, q⟩ => q ω σ H Ext.refl rl rs
theorem gs_cont : GS X T W (.Continue pos) tCnt := PS.imp ps_continue fun D σ H ⟨s, S, ω, rl, rs, q⟩ => q ω σ H Ext.refl rl rs
theorem gss_nil : GSs X T W [] tPass := PSs.imp pss_nil fun D σ H ⟨s, S, ω, rl, rs, q⟩ => q ω σ H Ext.refl rl rs
theorem gss_one (h : GS X T W st t) : GSs X T W [st] t := pss_one h
theorem gss_cons (h1 : GS X T W st t) (h2 : GSs X T W rest u) : GSs X T W (st :: rest) (Q.tSeq t u) := PSs.imp (pss_cons h1 h2) fun D σ H ⟨s, S, ω, rl, rs, q⟩ => by
  refine ⟨s, S, ω, rl, rs, ?_⟩
  unfold Q.tSeq at q
  cases e : t s S with
  | none => rw [e] at q; exact q
  | some p =>
    obtain ⟨f, S'⟩ := p
    rw [e] at q
    cases f with
    | nx s' => exact fun ω' σ' H' ex rl' rs' => ⟨s', S', ω', rl', rs', SPg.shift ex q⟩
    | bk s' => exact q
    | ct s' => exact q
    | ret d => exact q
    | ex x s' => exact q
theorem gs_expr (he : GE X T W a ta) (hs : swapsWith a none pos.line X.env = pure false := by rfl) : GS X T W (.Expr a pos) (tExpr ta) := PS.imp (ps_expr he hs) fun D σ H ⟨s, S, ω, rl, rs, q⟩ => by
  refine ⟨s, S, ω, rl, rs, (onE_ok rs q).mono ?_⟩
  rintro v H1 ⟨ω1, S1, d, e1, rl1, r1, q1⟩
  exact q1 ω1 σ H1 Ext.refl rl1 (rs.ext e1)
theorem gs_ret (he : GE X T W a ta) : GS X T W (.Return (some a) pos) (Q.tRet ta) := PS.imp (ps_ret he) fun D σ H ⟨s, S, ω, rl, rs, q⟩ => by
  refine ⟨s, S, ω, rl, rs, (onE_ok rs q).mono ?_⟩
  rintro v H1 ⟨ω1, S1, d, e1, rl1, r1, q1⟩
  exact q1 ω1 H1 v Ext.refl rl1 r1
theorem gs_set' {i : Nat} {te : L2.TE} (h : PS X st (tAsg te (gName i))) (hte : ∀ σ H Qv, tEr X.K T W ta σ H Qv → te σ H Qv) : GS X T W st (tSet (.nm i) ta) := PS.imp h fun D σ H ⟨s, S, ω, rl, rs, q⟩ => by
  refine hte _ _ _ ⟨s, S, ω, rl, rs, (onE_ok rs q).mono ?_⟩
  rintro v H1 ⟨ω1, S1, d, e1, rl1, r1, q1⟩
  unfold Pat.put at q1
  exact q1 ω1 _ H1 Ext.refl rl1 ((rs.ext e1).set r1 i)
theorem gs_set {i : Nat} (h : PS X st (tAsg (tEr X.K T W ta) (gName i))) : GS X T W st (tSet (.nm i) ta) := gs_set' h fun _ _ _ q => q
theorem gs_asg {p : Pat} (h : PS X st (tAsg (tEr X.K T W ta) (tGr X.K T p))) : GS X T W st (tSet p ta) := PS.imp h fun D σ H ⟨s, S, ω, rl, rs, q⟩ => by
  refine ⟨s, S, ω, rl, rs, (onE_ok rs q).mono ?_⟩
  rintro v H1 ⟨ω1, S1, d, e1, rl1, r1, q1⟩
  split at q1
  · rename_i s1 hp
    exact ⟨s, S1, ω1, d, s1, rl1, rs.ext e1, r1, hp, fun σ1 rs1 _ => q1 ω1 σ1 H1 Ext.refl rl1 rs1⟩
  · exact q1.elim
theorem tup_ok {D : Ends} {σ : L2.St} {H : Hp} {s : Sl} {S : Store} {ω : Wd} {ps : List Pat} (rs : Rs X.K T.toTb ω s σ) (q : SPg X.K T W D ω S H (tSet (.tp ps) (eTup ts) s S)) :
    EPg X.K T (Rps X.K T.toTb) W σ ω S H (eArgs ts s S) (fun vs H1 => ∃ ω1 S1 ds s1, Ext ω S H ω1 S1 H1 ∧ Rl X.K T.toTb ω1 S1 H1 ∧ Rps X.K T.toTb ω1 ds vs ∧ Pat.puts ps ds s = some s1 ∧ ∀ σ1, Rs X.K T.toTb ω1 s1 σ1 → D.nx σ1 H1) := by
  unfold tSet eTup at q
  cases e0 : eArgs ts s S with
  | ok ds S1 =>
    rw [e0] at q
    simp only [Res.bind, onE, Pat.put] at q
    intro ω1 H1 vs e rl1 r
    split at q
    · rename_i s1 hp
      exact ⟨ω1, S1, ds, s1, e, rl1, r, hp, fun σ1 rs1 => q ω1 σ1 H1 e rl1 rs1⟩
    · exact q.elim
  | ex x S1 =>
    rw [e0] at q
    simp only [Res.bind, onE] at q
    exact fun ω' H' c dd e rl' x => q ω' σ H' c dd e rl' (rs.ext e) x
  | err =>
    rw [e0] at q
    exact q
theorem gs_swp2 {i j : Nat} (h : PS X st (L2.tPar i j (tAr X.K T W (eArgs [ta, tb])))) : GS X T W st (tSet (.tp [.nm i, .nm j]) (eTup [ta, tb])) := PS.imp h fun D σ H ⟨s, S, ω, rl, rs, q⟩ => by
  refine ⟨s, S, ω, rl, rs, (tup_ok rs q).mono ?_⟩
  rintro vs H1 ⟨ω1, S1, ds, s1, e1, rl1, r, hp, k⟩
  have hl := puts_len hp
  match ds, hl with
  | [d1, d2], _ =>
    obtain ⟨v, w, rfl, r1, r2⟩ := r.two
    simp only [Pat.puts, Pat.put, Option.some.injEq] at hp
    subst hp
    exact ⟨v, w, rfl, k _ (((rs.ext e1).set r1 i).set r2 j)⟩
theorem Rps.three {K : PySem.W.Frag} {T : Tb} {ω : Wd} {d e f : D} {vs : List V} (h : Rps K T ω [d, e, f] vs) : ∃ u v w, vs = [u, v, w] ∧ Rp K T ω d u ∧ Rp K T ω e v ∧ Rp K T ω f w := by
  unfold Rps at h
  obtain ⟨v, ws, rfl, r, h2⟩ := h
  obtain ⟨w, z, rfl, r2, r3⟩ := Rps.two h2
  exact ⟨v, w, z, rfl, r, r2, r3⟩
theorem gs_swp3 {i j l : Nat} (h : PS X st (L2.tPar3 i j l (tAr X.K T W (eArgs [ta, tb, tc])))) : GS X T W st (tSet (.tp [.nm i, .nm j, .nm l]) (eTup [ta, tb, tc])) := PS.imp h fun D σ H ⟨s, S, ω, rl, rs, q⟩ => by
  refine ⟨s, S, ω, rl, rs, (tup_ok rs q).mono ?_⟩
  rintro vs H1 ⟨ω1, S1, ds, s1, e1, rl1, r, hp, k⟩
  have hl := puts_len hp
  match ds, hl with
  | [d1, d2, d3], _ =>
    obtain ⟨u, v, w, rfl, r1, r2, r3⟩ := r.three
    simp only [Pat.puts, Pat.put, Option.some.injEq] at hp
    subst hp
    exact ⟨u, v, w, rfl, k _ ((((rs.ext e1).set r1 i).set r2 j).set r3 l)⟩
theorem gs_if (hc : GT X T W c tc) (ha : GSs X T W body t) (hb : GSs X T W rest u) : GS X T W (.If c body rest pos) (Q.tIf tc t u) := PS.imp (ps_if hc ha hb) fun D σ H ⟨s, S, ω, rl, rs, q⟩ => by
  refine ⟨s, S, ω, rl, rs, ?_⟩
  unfold Q.tIf at q
  cases e0 : tc s S with
  | ok d S' =>
    rw [e0] at q
    have q' : SPg X.K T W D ω S H (asBS d S' fun c S2 => if c then t s S2 else u s S2) := q
    cases d <;> try exact q'.elim
    rename_i k
    intro ω' H' c e rl r
    cases r
    have q2 := SPg.shift e q'
    cases k with
    | true => exact iteT ⟨s, S', ω', rl, rs.ext e, q2⟩
    | false => exact iteF ⟨s, S', ω', rl, rs.ext e, q2⟩
  | ex x S' =>
    rw [e0] at q
    exact fun ω' H' c dd e rl' x => q ω' σ H' c dd e rl' (rs.ext e) x
  | err => rw [e0] at q; exact q
theorem gs_setIx {to ti tv : Q.TE} (h : PS X st (tAsg (tEr X.K T W tv) (gSub (tEr X.K T W to) (tEr X.K T W ti) rSetL))) : GS X T W st (tSetIx to ti tv) := PS.imp h fun D σ H ⟨s, S, ω, rl, rs, q⟩ => by
  refine ⟨s, S, ω, rl, rs, (onE_ok rs q).mono ?_⟩
  rintro v H1 ⟨ω1, S1, d, e1, rl1, r1, q1⟩
  refine ⟨s, S1, ω1, rl1, rs.ext e1, (onE_ok (rs.ext e1) q1).mono ?_⟩
  rintro w H2 ⟨ω2, S2, d2, e2, rl2, r2, q2⟩
  refine ⟨s, S2, ω2, rl2, (rs.ext e1).ext e2, (onE_ok ((rs.ext e1).ext e2) q2).mono ?_⟩
  rintro z H3 ⟨ω3, S3, d3, e3, rl3, r3, q3⟩
  split at q3
  · rename_i S4 hset
    unfold setL at hset
    split at hset
    · rename_i k j
      split at hset
      · rename_i xs g
        split at hset
        · rename_i n hn
          split at hset
          · rename_i hf
            cases hset
            obtain ⟨p, vs, rfl, rfl, h1, r4⟩ := Rp.ptr rl3 (r2.ext e3) g
            have hfs := (rl3.obj k xs g).2.1
            have z := rl3.put (es := xs.set n d) g (by
              refine flats_all.mpr fun x hx => ?_
              rcases List.mem_or_eq_of_mem_set hx with h | h
              · exact flats_all.mp hfs x h
              · rw [h]; exact hf) (r4.set n ((r1.ext e2).ext e3))
            exact ⟨_, vs, j, n, rfl, r3.int, h1, by rw [← r4.length]; exact hn, q3 ω3 σ _ z.1 z.2 ((((rs.ext e1).ext e2).ext e3).ext z.1)⟩
          · cases hset
        · cases hset
      · cases hset
    · cases hset
  · exact q3.elim
theorem gs_frz {i : Nat} (h : GS X T W st t) : GS X T W st (tFrz i t) := PS.imp h fun D σ H ⟨s, S, ω, rl, rs, q⟩ => by
  unfold tFrz at q
  split at q
  · rename_i s1 S1 hz
    unfold frzS at hz
    split at hz
    · rename_i k hk
      split at hz
      · rename_i xs g
        cases hz
        obtain ⟨v, hv, r⟩ := rs.2 i _ hk
        obtain ⟨p, vs, rfl, rfl, h1, r1⟩ := Rp.ptr rl r g
        obtain ⟨ω1, e1, rl1, hF⟩ := rl.frz g h1 r1
        have e : σ.set i (some (V.ref (ω.al k))) = σ := by
          have hl := (List.getElem?_eq_some_iff.mp hv).1
          have h2 := (List.getElem?_eq_some_iff.mp hv).2
          rw [← h2, List.set_getElem_self]
        have rs1 := (rs.ext e1).set (Rp.mlst hF (r1.ext e1)) i
        rw [e] at rs1
        exact ⟨_, _, ω1, rl1, rs1, SPg.shift e1 q⟩
      · cases hz
    · cases hz
  · exact q.elim
theorem gs_while (hp : PassesOwn (model X.prog X.w) X.A X.env X.xe) (hc : GT X T W c tc) (hb : GSs X T W body t) : GS X T W (.While c body [] pos) (Q.tWhile tc t) := PS.imp (ps_while hp hc hb) fun D σ H ⟨s, S, ω, rl, rs, q⟩ => by
  refine ⟨fun m σ H => ∃ s S ω, Rl X.K T.toTb ω S H ∧ Rs X.K T.toTb ω s σ ∧ SPg X.K T W D ω S H (whL tc t m s S), ⟨whMost, s, S, ω, rl, rs, q⟩, ?_⟩
  rintro m σ1 H1 ⟨s1, S1, ω1, rl1, rs1, q1⟩
  cases m with
  | zero => exact q1.elim
  | succ m =>
    refine ⟨s1, S1, ω1, rl1, rs1, ?_⟩
    unfold whL at q1
    cases e0 : tc s1 S1 with
    | ok d S' =>
      rw [e0] at q1
      simp only [onE] at q1
      cases d <;> try exact q1.elim
      rename_i k
      intro ω' H' c e rl2 r
      cases r
      have q2 := SPg.shift e q1
      cases k with
      | false => exact iteF (q2 ω' σ1 H' Ext.refl rl2 (rs1.ext e))
      | true =>
        refine iteT ⟨fun σ' H' => ∃ s S ω, Rl X.K T.toTb ω S H' ∧ Rs X.K T.toTb ω s σ' ∧ SPg X.K T W D ω S H' (whL tc t m s S), fun σ' H' w => ⟨m, Nat.lt_succ_self _, w⟩, s1, S', ω', rl2, rs1.ext e, ?_⟩
        have q3 : SPg X.K T W D ω' S' H' (match t s1 S' with
          | some (.nx s3, S3) => whL tc t m s3 S3
          | some (.ct s3, S3) => whL tc t m s3 S3
          | some (.bk s3, S3) => some (.nx s3, S3)
          | some (.ret d, S3) => some (.ret d, S3)
          | some (.ex e s3, S3) => some (.ex e s3, S3)
          | none => none) := q2
        cases e3 : t s1 S' with
        | none => rw [e3] at q3; exact q3
        | some p =>
          obtain ⟨f, S3⟩ := p
          rw [e3] at q3
          cases f with
          | nx s3 => exact fun ω4 σ4 H4 ex4 rl4 rs4 => ⟨s3, S3, ω4, rl4, rs4, SPg.shift ex4 q3⟩
          | ct s3 => exact fun ω4 σ4 H4 ex4 rl4 rs4 => ⟨s3, S3, ω4, rl4, rs4, SPg.shift ex4 q3⟩
          | bk s3 => exact q3
          | ret d => exact q3
          | ex x s3 => exact q3
    | ex x S' =>
      rw [e0] at q1
      exact fun ω' H' c dd e rl' x => q1 ω' σ1 H' c dd e rl' (rs1.ext e) x
    | err => rw [e0] at q1; exact q1
theorem gs_for {p : Pat} {iter : Expr} {src : Src} (hp : PassesOwn (model X.prog X.w) X.A X.env X.xe) (hc : X.calm = true) (hi : GI X T W tg iter src) (hg : GP X T tg p) (hb : GSs X T W body t) (hs : ∀ x, foldedSetIterable iter X.env x = pure x := by intro _; rfl) :
    GS X T W (.For tg iter body [] pos) (Q.tFor p src t) := PS.imp (ps_for hp hc hi hg hb hs) fun D σ H ⟨s, S, ω, rl, rs, q⟩ => by
  refine ⟨s, S, ω, rl, rs, ?_⟩
  unfold Q.tFor at q
  cases e0 : src s S with
  | ok ds S' =>
    rw [e0] at q
    intro ω' H' J e rl' g
    obtain ⟨G, Y, wk, gG, gY⟩ := g
    have q' : SPg X.K T W D ω' S' H' (forL p t ds s S') := SPg.shift e q
    refine for_it wk (fun i σ H => ∃ s S ω1, Later ω' ω1 ∧ Rl X.K T.toTb ω1 S H ∧ Rs X.K T.toTb ω1 s σ ∧ SPg X.K T W D ω1 S H (forL p t (ds.drop i) s S)) ⟨s, S', ω', Later.refl, rl', rs.ext e, q'⟩ (fun i σ H _ ⟨s1, S1, ω1, lt, rl1, _, _⟩ => gG H (lt.fix.trans rl1.sub)) ?_ ?_
    · rintro i x σ1 H1 H2 hi ⟨s1, S1, ω1, lt, rl1, rs1, q1⟩ y
      obtain ⟨d, hd⟩ : ∃ d, ds[i]? = some d := ⟨ds[i], by simp [hi]⟩
      obtain ⟨ω2, e2, rl2, r2⟩ := gY i d ω1 S1 H1 x H2 hd lt rl1 y
      have hdrop : ds.drop i = d :: ds.drop (i + 1) := by
        obtain ⟨h1, h2⟩ := List.getElem?_eq_some_iff.mp hd
        rw [List.drop_eq_getElem_cons h1, h2]
      rw [hdrop] at q1
      unfold forL at q1
      cases hput : p.put d s1 with
      | none => rw [hput] at q1; exact q1.elim
      | some s2 =>
        rw [hput] at q1
        refine ⟨s1, S1, ω2, d, s2, rl2, rs1.ext e2, r2, hput, fun σ3 rs3 _ => ⟨s2, S1, ω2, rl2, rs3, ?_⟩⟩
        have q2 := SPg.shift e2 q1
        have lt2 := lt.trans e2.later
        have q3 : SPg X.K T W D ω2 S1 H2 (match t s2 S1 with
          | some (.nx s2, S2) => forL p t (ds.drop (i + 1)) s2 S2
          | some (.ct s2, S2) => forL p t (ds.drop (i + 1)) s2 S2
          | some (.bk s2, S2) => some (.nx s2, S2)
          | some (.ret d, S2) => some (.ret d, S2)
          | some (.ex e s2, S2) => some (.ex e s2, S2)
          | none => none) := q2
        cases e3 : t s2 S1 with
        | none => rw [e3] at q3; exact q3
        | some pr =>
          obtain ⟨f, S3⟩ := pr
          rw [e3] at q3
          cases f with
          | nx s3 => exact fun ω4 σ4 H4 ex4 rl4 rs4 => ⟨s3, S3, ω4, lt2.trans ex4.later, rl4, rs4, SPg.shift ex4 q3⟩
          | ct s3 => exact fun ω4 σ4 H4 ex4 rl4 rs4 => ⟨s3, S3, ω4, lt2.trans ex4.later, rl4, rs4, SPg.shift ex4 q3⟩
          | bk s3 => exact q3
          | ret d => exact q3
          | ex x s3 => exact q3
    · rintro σ1 H1 ⟨s1, S1, ω1, lt, rl1, rs1, q1⟩
      rw [List.drop_length] at q1
      exact q1 ω1 σ1 H1 Ext.refl rl1 rs1
  | ex x S' =>
    rw [e0] at q
    exact fun ω' H' c dd e rl' x => q ω' σ H' c dd e rl' (rs.ext e) x
  | err => rw [e0] at q; exact q
abbrev Wn : WX := fun _ _ _ _ => False
theorem Rs.wipe {K : PySem.W.Frag} {T : Tb} {ω : Wd} {s : Sl} {σ : L2.St} (h : Rs K T ω s σ) : ∀ vs : List Nat, Rs K T ω (wipeS s vs) (L2.wipe σ vs)
  | [] => h
  | v :: vs => (Rs.wipe h vs).drop v
theorem Own.not_upd {K : PySem.W.Frag} {ω : Wd} {S : Store} {H : Hp} {A : Addr} {o : HO} (rl : Rl K T.toTb ω S H) (n : ¬ Own ω S A) (hA : H A = none ∨ ∃ vs, H A = some (.lst vs)) : Rl K T.toTb ω S (upd H A o) := by
  refine ⟨⟨fun b q h => ?_, rl.len, fun k ds h => ?_, rl.inj, rl.lenO, fun k v h => ?_, rl.injO, rl.nt, ⟨tabs_put rl.tab.1 hA, lamcs_put rl.tab.2 (plainL hA)⟩⟩, fun p hp => ⟨(rl.pinned p hp).1, ?_⟩⟩
  · rw [upd_ne fun z => n (.inl ⟨q, by rw [← z]; exact h⟩)]; exact rl.sub _ _ h
  · obtain ⟨a1, a2, vs, a3, a4⟩ := rl.obj k ds h
    exact ⟨a1, a2, vs, by rw [upd_ne fun z => n (.inr (.inl ⟨k, ds, h, z⟩))]; exact a3, a4⟩
  · obtain ⟨a1, a2, o2, a3, a4⟩ := rl.objO k v h
    refine ⟨a1, a2, o2, ?_, a4⟩
    have hk : k < ω.m := by rw [← rl.lenO]; exact (List.getElem?_eq_some_iff.mp h).1
    rw [upd_ne fun z => n (.inr (.inr ⟨k, hk, z⟩))]; exact a3
  · have h2 := (rl.pinned p hp).2
    rw [upd_ne fun z => by
      rw [z] at h2
      rcases hA with h | ⟨vs, h⟩
      · rw [h] at h2; cases h2
      · rw [h] at h2; exact codeO_lst h2.symm]
    exact h2
theorem Rl.adoptG {K : PySem.W.Frag} {ω0 ω : Wd} {S0 S : Store} {H0 H : Hp} {A : Addr} {o : HO} (rl : Rl K T.toTb ω S H) (e : Ext ω0 S0 H0 ω S H) (h0 : H0 A = none) (h : H A = some o) (n : ¬ Own ω S A) (ho : ∀ ps, o ≠ .tbl ps) (hlc : LamCs T.toTb (upd ω.F A o) H) :
    ∃ ω', Ext ω0 S0 H0 ω' S H ∧ Rl K T.toTb ω' S H ∧ ω'.F A = some o ∧ Later ω ω' := by
  have hF : ω.F A = none := by
    cases q : ω.F A with
    | none => rfl
    | some u => exact absurd (.inl ⟨u, q⟩) n
  have fx : Same ω.F (upd ω.F A o) := fun b q h => by rw [upd_ne (ne_of_none h hF)]; exact h
  have lt : Later ω ⟨upd ω.F A o, ω.al, ω.n, ω.ao, ω.m⟩ := ⟨fx, fun _ _ => rfl, Nat.le_refl _, fun _ _ => rfl, Nat.le_refl _⟩
  have own : ∀ b, b ≠ A → Own ⟨upd ω.F A o, ω.al, ω.n, ω.ao, ω.m⟩ S b → Own ω S b := fun b hb h => by
    rcases h with ⟨q, h⟩ | h | h
    · have h' : upd ω.F A o b = some q := h
      rw [upd_ne hb] at h'
      exact .inl ⟨q, h'⟩
    · exact .inr (.inl h)
    · exact .inr (.inr h)
  refine ⟨⟨upd ω.F A o, ω.al, ω.n, ω.ao, ω.m⟩, ⟨e.fix.trans fx, e.al, e.len, e.ao, e.lenO, e.live, fun b q h1 t n1 => ?_⟩, ⟨⟨fun b q h1 => ?_, rl.len, fun k ds h1 => ?_, rl.inj, rl.lenO, fun k v h1 => ?_, rl.injO, fun b ps h1 => ?_, ⟨rl.tab.1, hlc⟩⟩, fun p hp => ⟨(rl.pinned p hp).1.trans lt, (rl.pinned p hp).2⟩⟩, upd_same, lt⟩
  · obtain ⟨h2, n2⟩ := e.frame b q h1 t n1
    exact ⟨h2, fun z => n2 (own b (ne_of_none h1 h0) z)⟩
  · have h' : upd ω.F A o b = some q := h1
    by_cases hb : b = A
    · rw [hb, upd_same] at h'; rw [hb, h]; exact h'
    · rw [upd_ne hb] at h'; exact rl.sub _ _ h'
  · obtain ⟨a1, a2, vs, a3, a4⟩ := rl.obj k ds h1
    refine ⟨?_, a2, vs, a3, a4.late lt⟩
    show upd ω.F A o (ω.al k) = none
    rw [upd_ne fun z => n (.inr (.inl ⟨k, ds, h1, z⟩))]; exact a1
  · obtain ⟨a1, a2, o2, a3, a4⟩ := rl.objO k v h1
    have hk : k < ω.m := by rw [← rl.lenO]; exact (List.getElem?_eq_some_iff.mp h1).1
    refine ⟨?_, a2, o2, a3, Lvr.mono lt.fix lt.al lt.len lt.ao lt.lenO a4⟩
    show upd ω.F A o (ω.ao k) = none
    rw [upd_ne fun z => n (.inr (.inr ⟨k, hk, z⟩))]; exact a1
  · have h' : upd ω.F A o b = some (.tbl ps) := h1
    by_cases hb : b = A
    · rw [hb, upd_same] at h'; exact ho ps (Option.some.inj h')
    · rw [upd_ne hb] at h'; exact rl.nt b ps h'
theorem Rl.adopt {K : PySem.W.Frag} {ω0 ω : Wd} {S0 S : Store} {H0 H : Hp} {A : Addr} {o : HO} (rl : Rl K T.toTb ω S H) (e : Ext ω0 S0 H0 ω S H) (h0 : H0 A = none) (h : H A = some o) (n : ¬ Own ω S A) (ho : ∀ ps, o ≠ .tbl ps := by intro ps z; cases z) (hlm : ∀ I, T.toTb.lam = some I → ∀ c, o ≠ LamO I A c := by intro I z0 c z; unfold LamO at z; cases z) :
    ∃ ω', Ext ω0 S0 H0 ω' S H ∧ Rl K T.toTb ω' S H ∧ ω'.F A = some o ∧ Later ω ω' := Rl.adoptG rl e h0 h n ho (lamcs_F rl.tab.2 hlm)
theorem Ext.upd_out {ω0 ω : Wd} {S0 S : Store} {H0 H : Hp} {A : Addr} {o : HO} (e : Ext ω0 S0 H0 ω S H) (h0 : H0 A = none) : Ext ω0 S0 H0 ω S (upd H A o) :=
  ⟨e.fix, e.al, e.len, e.ao, e.lenO, e.live, fun b q h t n => by
    obtain ⟨h1, n1⟩ := e.frame b q h t n
    exact ⟨by rw [upd_ne (ne_of_none h h0)]; exact h1, n1⟩⟩
theorem own_of {K : PySem.W.Frag} {ω : Wd} {S : Store} {H : Hp} {A : Addr} (rl : Rl K T.toTb ω S H) (h : H A = none) : ¬ Own ω S A := by
  rintro (⟨q, z⟩ | ⟨k, ds, z, e⟩ | ⟨k, hk, e⟩)
  · have := rl.sub _ _ z
    rw [h] at this; cases this
  · obtain ⟨_, _, vs, a3, _⟩ := rl.obj k ds z
    rw [e, h] at a3; cases a3
  · have hk' : k < S.O.length := by rw [rl.lenO]; exact hk
    obtain ⟨_, _, o2, a3, a4⟩ := rl.objO k _ (show S.O[k]? = some S.O[k] by simp [hk'])
    rw [e, h] at a3; cases a3
theorem lc_ok {vs : List Nat} {p : Pat} {src : Src} {t e : Q.TE} (hin : ∀ i ∈ p.slots, i ∈ vs) (σ : L2.St) (H : Hp) (Qv : VK) (h : tEr X.K T W (eLc vs p src t e) σ H Qv) :
    tLc (tIr X.K T W src) (tGr X.K T p) (tTr X.K T Wn t) (tEr X.K T Wn e) vs σ H Qv := by
  obtain ⟨s, S, ω, rl, rs, q⟩ := h
  refine ⟨s, S, ω, rl, rs, (EPg.bind q).mono ?_⟩
  rintro J H1 ⟨ω1, S1, ds, e1, rl1, ⟨G, Y, wk, gG, gY⟩, q1⟩
  intro A hA
  have nA := own_of rl1 hA
  have rs1 : Rs X.K T.toTb ω1 (wipeS s vs) (L2.wipe σ vs) := (rs.ext e1).wipe vs
  refine lc_it wk (fun i H => ∃ S2 ω2 acc av, Ext ω1 S1 H1 ω2 S2 H ∧ Rl X.K T.toTb ω2 S2 H ∧ ¬ Own ω2 S2 A ∧ H A = some (.lst av) ∧ Rps X.K T.toTb ω2 acc av ∧ EPg X.K T (Rp X.K T.toTb) W σ ω1 S1 H1 (lcL p t e (wipeS s vs) (ds.drop i) acc S2) Qv)
    ⟨S1, ω1, [], [], Ext.refl.upd_out hA, Own.not_upd rl1 nA (.inl hA), nA, upd_same, Rps.nil, q1⟩ (fun i H _ ⟨S2, ω2, acc, av, x1, x2, _⟩ => gG H (x1.fix.trans x2.sub)) ?_ ?_
  · rintro i x H2 H3 hi ⟨S2, ω2, acc, av, x1, x2, x3, x4, x5, q2⟩ y
    obtain ⟨d, hd⟩ : ∃ d, ds[i]? = some d := ⟨ds[i], by simp [hi]⟩
    obtain ⟨ω3, e3, rl3, r3⟩ := gY i d ω2 S2 H2 x H3 hd x1.later x2 y
    obtain ⟨x4', x3'⟩ := e3.frame A _ x4 (fun ps z => by cases z) x3
    have hdrop : ds.drop i = d :: ds.drop (i + 1) := by
      obtain ⟨h1, h2⟩ := List.getElem?_eq_some_iff.mp hd
      rw [List.drop_eq_getElem_cons h1, h2]
    rw [hdrop] at q2
    unfold lcL at q2
    cases hput : p.put d (wipeS s vs) with
    | none => rw [hput] at q2; exact q2.elim
    | some s2 =>
      simp only [hput] at q2
      have x13 := x1.trans e3
      refine ⟨wipeS s vs, S2, ω3, d, s2, rl3, (rs1.ext x1).ext e3, r3, hput, fun σ3 rs3 hw => ⟨?_, ?_⟩⟩
      · have := hw vs hin
        rw [this]
        -- wiping twice is wiping once
        have idem : ∀ (ws : List Nat) (τ : L2.St), (∀ i ∈ ws, τ[i]? = none ∨ τ[i]? = some none) → L2.wipe τ ws = τ := by
          intro ws
          induction ws with
          | nil => intro τ _; rfl
          | cons w ws ih =>
            intro τ hτ
            unfold L2.wipe
            rw [ih τ fun i hi => hτ i (List.mem_cons_of_mem _ hi)]
            rcases hτ w List.mem_cons_self with z | z
            · exact List.set_eq_of_length_le (List.getElem?_eq_none_iff.mp z)
            · obtain ⟨h1, h2⟩ := List.getElem?_eq_some_iff.mp z
              rw [← h2, List.set_getElem_self]
        refine idem vs _ fun i hi => ?_
        cases z : (L2.wipe σ vs)[i]? with
        | none => exact .inl rfl
        | some o => cases o with
          | none => exact .inr rfl
          | some v => exact absurd hi (wipe_some z).2
      · refine ⟨s2, S2, ω3, rl3, rs3, ?_⟩
        cases e4 : t s2 S2 with
        | err => rw [e4] at q2; exact q2
        | ex x S3 => rw [e4] at q2; exact q2.elim
        | ok b S3 =>
          rw [e4] at q2
          cases b <;> try exact q2.elim
          rename_i k
          intro ω4 H4 c ex4 rl4 rb
          cases rb
          obtain ⟨y4, y3⟩ := ex4.frame A _ x4' (fun ps z => by cases z) x3'
          cases k with
          | false => exact iteF ⟨S3, ω4, acc, av, x13.trans ex4, rl4, y3, y4, (x5.ext e3).ext ex4, q2⟩
          | true =>
            refine iteT ⟨s2, S3, ω4, rl4, rs3.ext ex4, ?_⟩
            cases e5 : e s2 S3 with
            | err => simp only [e5] at q2; exact q2.elim
            | ex x S4 => simp only [e5] at q2; exact q2.elim
            | ok r S4 =>
              simp only [e5] at q2
              intro ω5 H5 v ex5 rl5 rv
              obtain ⟨z4, z3⟩ := ex5.frame A _ y4 (fun ps z => by cases z) y3
              split at q2
              · rename_i hline
                refine ⟨av, z4, by rw [← x5.length]; exact of_decide_eq_true hline, S4, ω5, acc ++ [r], av ++ [v], ((x13.trans ex4).trans ex5).upd_out hA, Own.not_upd rl5 z3 (.inr ⟨_, z4⟩), z3, upd_same, (((x5.ext e3).ext ex4).ext ex5).append (Rps.cons rv Rps.nil), q2⟩
              · exact q2.elim
  · rintro H2 ⟨S2, ω2, acc, av, x1, x2, x3, x4, x5, q2⟩
    rw [List.drop_length] at q2
    unfold lcL at q2
    obtain ⟨ω3, x1', rl3, hF, lt⟩ := Rl.adopt x2 x1 hA x4 x3
    exact q2 ω3 H2 _ x1' rl3 (Rp.mlst hF (x5.late lt))
theorem ge_lc {elt iter : Expr} {ifs : List Expr} {scope : Scope} {own : List (Str × Nat)} {p : Pat} {src : Src} {t e : Q.TE} (hc : X.calm = true) (hN : X.N.Nodup) (hi : GI X T W tg iter src) (ok : BlkOk X.N X.env.scope scope own) (hin : ∀ i ∈ p.slots, i ∈ own.map (·.2))
    (hg : ∀ (s : Shared) (H : Hp) (C : Addr) (cl : List (Str × Addr)) (fp : List Addr), GP (X.blk s H scope (compEnvC scope cl C X.env) fp) T tg p)
    (ht : ∀ (s : Shared) (H : Hp) (C : Addr) (cl : List (Str × Addr)) (fp : List Addr), PTs (X.blk s H scope (compEnvC scope cl C X.env) fp) ifs (tTr X.K T Wn t))
    (he : ∀ (s : Shared) (H : Hp) (C : Addr) (cl : List (Str × Addr)) (fp : List Addr), GE (X.blk s H scope (compEnvC scope cl C X.env) fp) T Wn elt e) (hs : ∀ x, foldedSetIterable iter X.env x = pure x := by intro _; rfl) :
    GE X T W (.ListComp elt [⟨tg, iter, ifs, 0⟩] scope pos) (eLc (own.map (·.2)) p src t e) := PE.imp (pe_lc (g := tGr X.K T p) (tt := tTr X.K T Wn t) (te := tEr X.K T Wn e) hc hN hi ok hg ht he hs) (lc_ok hin)
theorem gs_setLc {i : Nat} {y : Str} {py spos : Pos} {elt iter : Expr} {ifs : List Expr} {scope : Scope} {own : List (Str × Nat)} {p : Pat} {src : Src} {t e : Q.TE} (hc : X.calm = true) (hN : X.N.Nodup) (hy : X.N[i]? = some y) (hyl : X.env.scope.names.lookup y = some .local)
    (hsw : swapsWith (.ListComp elt [⟨tg, iter, ifs, 0⟩] scope pos) (some (.Name y py)) spos.line X.env = pure true) (hi : GI X T W tg iter src) (ok : BlkOk X.N X.env.scope scope own) (hin : ∀ i ∈ p.slots, i ∈ own.map (·.2))
    (hg : ∀ (s : Shared) (H : Hp) (C : Addr) (cl : List (Str × Addr)) (fp : List Addr), GP (X.blk s H scope (compEnvC scope cl C X.env) fp) T tg p)
    (ht : ∀ (s : Shared) (H : Hp) (C : Addr) (cl : List (Str × Addr)) (fp : List Addr), PTs (X.blk s H scope (compEnvC scope cl C X.env) fp) ifs (tTr X.K T Wn t))
    (he : ∀ (s : Shared) (H : Hp) (C : Addr) (cl : List (Str × Addr)) (fp : List Addr), GE (X.blk s H scope (compEnvC scope cl C X.env) fp) T Wn elt e) (hs : ∀ x, foldedSetIterable iter X.env x = pure x := by intro _; rfl) :
    GS X T W (.Assign [.Name y py] (.ListComp elt [⟨tg, iter, ifs, 0⟩] scope pos) spos) (tSet (.nm i) (eLc (own.map (·.2)) p src t e)) := gs_set' (ps_setLc (g := tGr X.K T p) (tt := tTr X.K T Wn t) (te := tEr X.K T Wn e) hc hN hy hyl hsw hi ok hg ht he hs) (lc_ok hin)
theorem gts_nil {K : PySem.W.Frag} : PTs X [] (tTr K T W (eC (.bl true))) := ⟨fun pins s σ H Qv I ⟨s1, S, ω, rl, rs, q⟩ => wpAny_tests_nil ⟨H, I, q.now rl rfl⟩⟩
theorem gts_one (h : GT X T W c tc) : PTs X [c] (tTr X.K T W tc) := pts_one h
def spOf (K : PySem.W.Frag) (T : Tx) (P : Prog) (k id : Nat) : Sp := fun vs H Qv E => ∃ ds S ω, Rl K T.toTb ω S H ∧ Rps K T.toTb ω ds vs ∧ EPg K T (Rp K T.toTb) (fun cls dd _ H => E cls dd H) [] ω S H (callN P k id ds S) Qv
theorem ge_call {k id : Nat} {P : Prog} {f : Addr} {fd : FuncData} {ps : List Str} {x : Str} {p : Pos} (F : FnOk X.prog X.w X.K X.mg X.base (L2.CX X.prog X.w) k f fd ps (spOf X.K T P k id)) (hr : Room k X.A) (hg : Gl X x) (hm : X.mg x = some (.ref f)) (hk : PySem.W.keepIn X.K (.ref f) = true) (hb : Binds X.K fd ps []) (tk : Takes X W)
    (ha : GA X T W (e :: es) ts) (hdb : (x == ("__debug__" : Str)) = false := by decide) (he : starEach (e :: es) X.env = (false, eval e X.env) :: starEach es X.env := by rfl) (hpl : (backTo pos (starEach es X.env)).any (·.1) = false := by rfl) :
    GE X T W (.Call (.Name x p) (e :: es) [] pos) (eCall (callN P k) id ts) := PE.imp (pe_callS F hr hg hm hk hb (fun σ => passAt tk σ) ha hdb he hpl) fun σ H Qv ⟨s, S, ω, rl, rs, q⟩ => by
  refine ⟨s, S, ω, rl, rs, (EPg.bind q).mono ?_⟩
  rintro vs H1 ⟨ω1, S1, ds, e1, rl1, r1, q1⟩
  refine ⟨ds, S1, ω1, rl1, r1, ?_⟩
  cases z : callN P k id ds S1 with
  | ok d S2 => rw [z] at q1; exact q1
  | ex x S2 => rw [z] at q1; exact q1
  | err => rw [z] at q1; exact q1
theorem ge_call0 {k id : Nat} {P : Prog} {f : Addr} {fd : FuncData} {ps : List Str} {x : Str} {p : Pos} (F : FnOk X.prog X.w X.K X.mg X.base (L2.CX X.prog X.w) k f fd ps (spOf X.K T P k id)) (hr : Room k X.A) (hg : Gl X x) (hm : X.mg x = some (.ref f)) (hk : PySem.W.keepIn X.K (.ref f) = true) (hb : Binds X.K fd ps []) (tk : Takes X W)
    (hdb : (x == ("__debug__" : Str)) = false := by decide) : GE X T W (.Call (.Name x p) [] [] pos) (eCall (callN P k) id []) := by
  refine PE.imp (t := fun σ H Qv => spOf X.K T P k id [] H Qv (WE W σ)) ⟨fun pins s σ H Qv I h => ?_⟩ fun σ H Qv ⟨s, S, ω, rl, rs, q⟩ => ⟨[], S, ω, rl, Rps.nil, ?_⟩
  · refine wpAny_Call_Name_kw (ld_glob I hg hm ?_ hdb)
    exact PySem.W.callWith_K0 I.kIn hk (run_fnS (us := []) F hr hb (passAt tk σ) I .nil h)
  · have q1 : EPg X.K T (Rp X.K T.toTb) W σ ω S H (callN P k id [] S) Qv := q
    cases z : callN P k id [] S with
    | ok d S2 => rw [z] at q1; exact q1
    | ex x S2 => rw [z] at q1; exact q1
    | err => rw [z] at q1; exact q1
theorem Rs.start {K : PySem.W.Frag} {T : Tb} {ω : Wd} {ds : List D} {vs : List V} {N : List Str} {n : Nat} (r : Rps K T ω ds vs) (hn : n = N.length - vs.length) : Rs K T ω (ds.map some ++ List.replicate n none) (start N vs) := by
  unfold L2.start
  refine ⟨by simp [r.length, hn], fun i d h => ?_⟩
  by_cases hi : i < ds.length
  · rw [List.getElem?_append_left (by simpa using hi), List.getElem?_map] at h
    cases e : ds[i]? with
    | none => rw [e] at h; cases h
    | some d' =>
      rw [e] at h
      cases h
      obtain ⟨v, hv, rv⟩ := r.get e
      have hi' : i < vs.length := (List.getElem?_eq_some_iff.mp hv).1
      exact ⟨v, by rw [List.getElem?_append_left (by simpa using hi'), List.getElem?_map, hv]; rfl, rv⟩
  · rw [List.getElem?_append_right (by simpa using Nat.le_of_not_lt hi), List.getElem?_replicate] at h
    split at h <;> cases h
end
section
variable {P : Program} {w : World} {K : PySem.W.Frag} {mg : Str → Option Value} {base : Heap} {x qual : Str} {params : Arguments} {body : List Stmt} {scope : Scope} {f : Addr} {fd : FuncData} {T : Tx}
def CdOk (K : PySem.W.Frag) (f : Addr) (qual : Str) (cdv : Value) : Prop := ∃ (oc : Value) (od : Option Addr) (osl : Array (Option Value)) (fd : FuncData), K.lookup f = some ⟨oc, od, .func fd, osl⟩ ∧ fd.code = cdv ∧ PySem.W.codeIn K cdv qual = true
theorem sp_len {ps : List Str} {k id : Nat} {Pr : Prog} {d : FnD} {K : PySem.W.Frag} {vs : List V} {H : Hp} {Qv : VK} {E : XK} (hP : Pr id = some d) (hnp : d.np = ps.length) (z : spOf K T Pr (k + 1) id vs H Qv E) : vs.length = ps.length := by
  obtain ⟨ds, S, ω, rl, r, q⟩ := z
  have q' : EPg K T (Rp K T.toTb) _ [] ω S H (callN Pr (k + 1) id ds S) Qv := q
  rw [callN_eq hP] at q'
  unfold runFn at q'
  split at q'
  · rw [← r.length, ← hnp]; assumption
  · exact q'.elim
theorem sp_body {N : List Str} {k id : Nat} {Pr : Prog} {d : FnD} {K : PySem.W.Frag} {vs : List V} {H : Hp} {Qv : VK} {E : XK} {ps : List Str} (hP : Pr id = some d) (hns : d.ns = N.length) (hnp : d.np = ps.length) (z : spOf K T Pr (k + 1) id vs H Qv E) :
    tSr K T (fun cls dd _ H => E cls dd H) (d.body (callN Pr k)) { nx := fun _ H' => Qv .non H', rt := Qv } (start N vs) H := by
  obtain ⟨ds, S, ω, rl, r, q⟩ := z
  have q' : EPg K T (Rp K T.toTb) (fun cls dd _ H => E cls dd H) [] ω S H (callN Pr (k + 1) id ds S) Qv := q
  rw [callN_eq hP] at q'
  unfold runFn at q'
  split at q'
  · rename_i hl
    refine ⟨_, S, ω, rl, Rs.start (n := d.ns - d.np) r (by rw [hns, ← r.length, hl]), ?_⟩
    cases e : d.body (callN Pr k) (ds.map some ++ List.replicate (d.ns - d.np) none) S with
    | none => rw [e] at q'; exact q'
    | some p =>
      obtain ⟨fl, S'⟩ := p
      rw [e] at q'
      have lv : ∀ {v : D} {u : V} {ω1 : Wd} {H1 : Hp}, EPg K T (Rp K T.toTb) (fun cls dd _ H => E cls dd H) [] ω S H (leave d.keep S v S') Qv → Ext ω S H ω1 S' H1 → Rl K T.toTb ω1 S' H1 → Rp K T.toTb ω1 v u → Qv u H1 := fun {v u ω1 H1} q ex rl1 r1 => by
        unfold leave at q
        split at q
        · exact q ω1 H1 u ex rl1 r1
        · split at q
          · rename_i hf
            obtain ⟨ω2, ex2, rl2, fl, _⟩ := Rl.cut rl rl1 ex
            exact q ω2 H1 u ex2 rl2 (fl _ _ hf r1)
          · exact q.elim
      cases fl with
      | nx s' => exact fun ω1 σ1 H1 ex rl1 _ => lv q' ex rl1 Rp.mnon
      | ret v => exact fun ω1 H1 u ex rl1 r1 => lv q' ex rl1 r1
      | bk s' => exact q'.elim
      | ct s' => exact q'.elim
      | ex y s' =>
        intro ω1 σ1 H1 cls dd ex rl1 _ xr
        simp only at q'
        split at q'
        · exact q' ω1 H1 cls dd ex rl1 xr
        · split at q'
          · rename_i hf
            obtain ⟨ω2, ex2, rl2, fl, hFF, _⟩ := Rl.cut rl rl1 ex
            refine q' ω2 H1 cls dd ex2 rl2 ⟨xr.1, ?_⟩
            have x2 := xr.2
            split at x2
            · exact x2
            · rename_i z hz
              obtain ⟨a, b, c1, c2, c3⟩ := x2
              rw [hz] at hf
              simp [flats] at hf
              exact ⟨a, b, c1, by rw [hFF]; exact c2, fl _ _ hf c3⟩
            · exact x2.elim
          · exact q'.elim
  · exact q'.elim
theorem fn_okC {N ps : List Str} {k id : Nat} {Pr : Prog} {d : FnD} (F : FunD K x qual params body scope [] [] f fd) (Sc : FnScope N ps scope) (hP : Pr id = some d) (hnp : d.np = ps.length) (hns : d.ns = N.length)
    (hbody : ∀ (cdv : Value), CdOk K f qual cdv → ∀ (A : Around) (outer : List Env) (s : Shared) (H : Hp) (E : XK), Room k (A.deeper (envOfC qual scope s.heap.objs.size f cdv)) →
      GSs (cxOf (L2.CX P w) P w K mg base N qual scope f cdv A outer s H E) T (fun cls dd _ H => E cls dd H) body (d.body (callN Pr k))) : FnOk P w K mg base (L2.CX P w) (k + 1) f fd ps (spOf K T Pr (k + 1) id) := by
  obtain ⟨oc, od, dV, kV, doc, pm, an, cdv, ct, osl, rfl, lk, hcd, _, _⟩ := F.ex
  exact fn_of lk hcd Sc (fun vs H Qv E z => sp_len hP hnp z) fun A outer s H vs Qv E hr z => ⟨_, hbody cdv ⟨oc, od, osl, _, lk, rfl, hcd⟩ A outer s H E hr, sp_body hP hns hnp z⟩
theorem fn_ok {N ps : List Str} {k id : Nat} {Pr : Prog} {d : FnD} (F : FunD K x qual params body scope [] [] f fd) (Sc : FnScope N ps scope) (hP : Pr id = some d) (hnp : d.np = ps.length) (hns : d.ns = N.length)
    (hbody : ∀ (cdv : Value) (A : Around) (outer : List Env) (s : Shared) (H : Hp) (E : XK), Room k (A.deeper (envOfC qual scope s.heap.objs.size f cdv)) →
      GSs (cxOf (L2.CX P w) P w K mg base N qual scope f cdv A outer s H E) T (fun cls dd _ H => E cls dd H) body (d.body (callN Pr k))) : FnOk P w K mg base (L2.CX P w) (k + 1) f fd ps (spOf K T Pr (k + 1) id) := fn_okC F Sc hP hnp hns fun cdv _ => hbody cdv
end
structure FnO (P : Program) (w : World) (K : PySem.W.Frag) (mg : Str → Option Value) (base : Heap) (T : Tx) (Pr : Prog) (k id : Nat) (x : Str) (f : Addr) (ps : List Str) : Prop where
  g : mg x = some (.ref f)
  kp : PySem.W.keepIn K (.ref f) = true
  fn : ∃ fd, Binds K fd ps [] ∧ FnOk P w K mg base (L2.CX P w) k f fd ps (spOf K T Pr k id)
theorem fn_zero {P : Program} {w : World} {K : PySem.W.Frag} {mg : Str → Option Value} {base : Heap} {T : Tx} {Pr : Prog} {id : Nat} {f : Addr} {fd : FuncData} {ps : List Str} : FnOk P w K mg base (L2.CX P w) 0 f fd ps (spOf K T Pr 0 id) :=
  ⟨fun vs H Qv E ⟨ds, S, ω, rl, r, q⟩ => q.elim, fun A outer s H args us vs Qv E _ _ _ _ ⟨ds, S, ω, rl, r, q⟩ => q.elim⟩
section
variable {X : Cx} {T : Tx} {W : WX} {e : Expr} {es : List Expr} {ts : List Q.TE} {pos : Pos}
theorem ge_fn {k id : Nat} {Pr : Prog} {f : Addr} {ps : List Str} {x : Str} {p : Pos} (F : FnO X.prog X.w X.K X.mg X.base T Pr k id x f ps) (hr : Room k X.A) (tk : Takes X W) (hg : Gl X x) (ha : GA X T W (e :: es) ts)
    (hdb : (x == ("__debug__" : Str)) = false := by decide) (he : starEach (e :: es) X.env = (false, eval e X.env) :: starEach es X.env := by rfl) (hpl : (backTo pos (starEach es X.env)).any (·.1) = false := by rfl) :
    GE X T W (.Call (.Name x p) (e :: es) [] pos) (eCall (callN Pr k) id ts) := by
  obtain ⟨fd, hb, ok⟩ := F.fn
  exact ge_call ok hr hg F.g F.kp hb tk ha hdb he hpl
theorem ge_fn0 {k id : Nat} {Pr : Prog} {f : Addr} {ps : List Str} {x : Str} {p : Pos} (F : FnO X.prog X.w X.K X.mg X.base T Pr k id x f ps) (hr : Room k X.A) (tk : Takes X W) (hg : Gl X x) (hdb : (x == ("__debug__" : Str)) = false := by decide) :
    GE X T W (.Call (.Name x p) [] [] pos) (eCall (callN Pr k) id []) := by
  obtain ⟨fd, hb, ok⟩ := F.fn
  exact ge_call0 ok hr hg F.g F.kp hb tk hdb
theorem gs_never {st : Stmt} : GS X T W st tNo := PS.imp ps_never fun D σ H ⟨s, S, ω, rl, rs, q⟩ => q
end
end Q
namespace Q
open PySem PySem.Spec PyProof.Rows L2
def ItzS (x y : Str) : It :=
  ⟨fun i _ => i < x.cps.size ∧ i < y.cps.size,
    fun i H v H' => ∃ T c d, v = .ref T ∧ H T = none ∧ H' = upd H T (.tup [.str ⟨#[c]⟩, .str ⟨#[d]⟩]) ∧ x.cps[i]? = some c ∧ y.cps[i]? = some d,
    fun i _ => i ≤ x.cps.size ∧ i ≤ y.cps.size ∧ (i = x.cps.size ∨ i = y.cps.size)⟩
theorem turn_zipS {P : Program} {w : World} {K : PySem.W.Frag} {elts : List Expr} {kk : Nat} {tpos : Pos} {z TI TO i1 i2 : Addr} {x y : Str} {t1 t2 : Tok} (D : ZipSep2 z TI TO i1 i2 [i1] [i2]) :
    Turn P w K (.Tuple elts kk tpos) (ItzS x y) [z, TI, TO, i1, i2] z (fun i h => IsZip h z TI TO .none ∧ IsTupOf2 h TI (.ref i1) (.ref i2) ∧ (∃ u v, IsTupOf2 h TO u v) ∧ h.IsStrIter i1 (strIterType x) x t1 i ∧ h.IsStrIter i2 (strIterType y) y t2 i) where
  mem := by simp
  obj := fun i h st c hc => by
    obtain ⟨za, zb, ⟨_, _, zc⟩, ⟨p1, k1, _, l1⟩, ⟨p2, k2, _, l2⟩⟩ := st
    simp only [List.mem_cons, List.not_mem_nil, or_false] at hc
    rcases hc with rfl | rfl | rfl | rfl | rfl
    · exact ⟨_, za, fun _ u => nomatch u⟩
    · exact ⟨_, zb, fun _ u => nomatch u⟩
    · exact ⟨_, zc, fun _ u => nomatch u⟩
    · exact ⟨p1, k1, fun _ u => by rw [l1] at u; cases u⟩
    · exact ⟨p2, k2, fun _ u => by rw [l2] at u; cases u⟩
  keep := fun i h h' st k => by
    obtain ⟨hz, hTI, ⟨x, y, hTO⟩, ⟨o1, e1, r1⟩, ⟨o2, e2, r2⟩⟩ := st
    exact ⟨k z (by simp) _ hz, k TI (by simp) _ hTI, ⟨x, y, k TO (by simp) _ hTO⟩, ⟨o1, k i1 (by simp) _ e1, r1⟩, ⟨o2, k i2 (by simp) _ e2, r2⟩⟩
  item := by
    intro X hP hw hK hc i pins s σ H E I hf st hg
    subst hP hw hK
    obtain ⟨hz, hTI, ⟨x0, y0, hTO⟩, h1, h2⟩ := st
    have hd : X.A.in1.handled = none := I.ok.hd hc
    have hzl : z < s.heap.objs.size := Heap.lt_size hz
    refine wpAny_pyNext_zipD2_item D (Draws.text hd i1 x t1) (Draws.text hd i2 y t2) hz hTI hTO h1 h2 hg.1 hg.2 fun u1 u2 h' tk p1 p2 z' TO' h1' h2' hT hsz hk => ?_
    obtain ⟨c1, w1, hc1, rfl⟩ := p1
    obtain ⟨c2, w2, hc2, rfl⟩ := p2
    refine ⟨_, rfl, wpAny_letOwnedTupleGo_zip (s := { s with heap := h', toks := tk }) z' fun h'' z'' sb => ?_⟩
    have hT2 : h''.get? s.heap.objs.size = some { cls := .type "tuple", data := .seq #[.str ⟨#[c1]⟩ w1, .str ⟨#[c2]⟩ w2] } := (sb.2 _ (Nat.ne_of_gt hzl)).trans hT
    have new : ObjOk X.prog X.w (upd H s.heap.objs.size (.tup [.str ⟨#[c1]⟩, .str ⟨#[c2]⟩])) h'' s.heap.objs.size (.tup [.str ⟨#[c1]⟩, .str ⟨#[c2]⟩]) :=
      ⟨by show 2 ≤ sizeLine; decide, [.str ⟨#[c1]⟩ w1, .str ⟨#[c2]⟩ w2], .cons ⟨w1, rfl⟩ (.cons ⟨w2, rfl⟩ .nil), ⟨_, hT2, rfl, _, rfl⟩⟩
    have I1 : Inv X pins σ (upd H s.heap.objs.size (.tup [.str ⟨#[c1]⟩, .str ⟨#[c2]⟩])) { s with heap := h'', toks := tk } :=
      I.turnedNew (t' := tk) (ch := [z, TI, TO, i1, i2]) (fun c o hb q => (sb.2 c (fun q' => hb (by simp [q']))).trans (hk c o (fun q' => hb (by simp [q'])) (fun q' => hb (by simp [q'])) (fun q' => hb (by simp [q'])) (fun q' => hb (by simp [q'])) q)) hf (Nat.le_refl _) new
    refine ⟨.ref s.heap.objs.size, _, I1, rfl, ⟨_, c1, c2, rfl, I.hok.fresh (Nat.le_refl _), rfl, hc1, hc2⟩, ⟨z'', ?_, ⟨.str ⟨#[c1]⟩ w1, .str ⟨#[c2]⟩ w2, ?_⟩, ?_, ?_⟩, fun c hcm => ?_⟩
    · exact (sb.2 _ D.TIz).trans (hk _ _ D.TIz D.TITO D.TIi1 D.TIi2 hTI)
    · exact (sb.2 _ D.TOz).trans TO'
    · obtain ⟨o, e, r⟩ := h1'
      exact ⟨o, (sb.2 _ D.zi1.symm).trans e, r⟩
    · obtain ⟨o, e, r⟩ := h2'
      exact ⟨o, (sb.2 _ D.zi2.symm).trans e, r⟩
    · have hlt : c < s.heap.objs.size := by
        simp only [List.mem_cons, List.not_mem_nil, or_false] at hcm
        obtain ⟨_, k1, _⟩ := h1
        obtain ⟨_, k2, _⟩ := h2
        rcases hcm with rfl | rfl | rfl | rfl | rfl <;> exact Heap.lt_size (by assumption)
      rw [upd_ne (Nat.ne_of_lt hlt)]
      exact (hf c hcm).1
  done := by
    intro X hP hw hK hc i pins s σ H E I hf st hg
    subst hP hw hK
    obtain ⟨hz, hTI, ⟨x0, y0, hTO⟩, h1, h2⟩ := st
    have hd : X.A.in1.handled = none := I.ok.hd hc
    exact wpAny_pyNext_zipD2_end D (Draws.text hd i1 x t1) (Draws.text hd i2 y t2) hz hTI hTO h1 h2 hg.1 hg.2.1 hg.2.2 fun h' tk hk => ⟨rfl, I.turnedL (t' := tk) (ch := [z, TI, TO, i1, i2]) (fun c o hb q =>
      hk c o (fun q' => hb (by simp [q'])) (fun q' => hb (by simp [q'])) (fun q' => hb (by simp [q'])) (fun q' => hb (by simp [q'])) q) hf⟩
  self := fun A i s Q E st h => wpAny_pyIter_zip st.1 h
def tZipS (ta : L2.TA) : L2.TI := fun σ H R => ta σ H fun vs H1 => ∃ x y, vs = [.str x, .str y] ∧ R (ItzS x y) H1
theorem pi_zipS {X : Cx} {e e2 : Expr} {ta : L2.TA} {p pos tpos : Pos} {elts : List Expr} {kk : Nat} (hg : Gl X "zip") (hm : X.mg "zip" = none) (ha : PA X [e, e2] ta)
    (hs : starEach [e, e2] X.env = (false, eval e X.env) :: starEach [e2] X.env := by rfl) (hpl : (backTo pos (starEach [e2] X.env)).any (·.1) = false := by rfl) :
    PI X (.Tuple elts kk tpos) (.Call (.Name "zip" p) [e, e2] [] pos) (tZipS ta) := by
  refine ⟨fun pins s σ H R I h => ?_⟩
  refine Call_ (ld_blt I hg hm PyProof.Rows.boot_zip (PyProof.Rows.callWith_type1 (thn (ha.run pos pins s σ H _ I h) fun us s1 ⟨vs, H1, I1, r1, q1⟩ => ?_) hs hpl))
  obtain ⟨x, y, ex, q1⟩ := q1
  subst ex
  cases r1 with
  | cons r rr =>
    cases rr with
    | cons r' rr =>
      cases rr
      obtain ⟨t1, rfl⟩ := r
      obtain ⟨t2, rfl⟩ := r'
      refine zip_begins2 (begins_text x t1) (begins_text y t2) trivial trivial fun h' hz hTI hTO h1 h2 hsz hk => wpAny_pyIter_zip hz ?_
      have fresh5 : ∀ c, c ∈ [s1.heap.objs.size + 4, s1.heap.objs.size + 2, s1.heap.objs.size + 3, s1.heap.objs.size, s1.heap.objs.size + 1] → FpOk X pins H1 c := fun c hcm => by
        have big : ∀ m : Nat, s1.heap.objs.size ≤ s1.heap.objs.size + m := fun m => Nat.le_add_right _ m
        simp only [List.mem_cons, List.not_mem_nil, or_false] at hcm
        have low : s1.heap.objs.size ≤ c := by
          rcases hcm with rfl | rfl | rfl | rfl | rfl
          · exact big 4
          · exact big 2
          · exact big 3
          · exact big 0
          · exact big 1
        exact I1.fpOk low (I1.hok.fresh low)
      have I2 : Inv X pins σ H1 { s1 with heap := h' } := I1.kept (t' := s1.toks) hk
      exact ⟨s1.heap.objs.size + 4, [s1.heap.objs.size + 4, s1.heap.objs.size + 2, s1.heap.objs.size + 3, s1.heap.objs.size, s1.heap.objs.size + 1], _, _, H1, rfl, I2,
        turn_zipS (zip_sep2 (N := s1.heap.objs.size) (fp1 := []) (fp2 := []) (by simp) (by simp)), ⟨hz, hTI, ⟨_, _, hTO⟩, ⟨_, h1, rfl, rfl⟩, ⟨_, h2, rfl, rfl⟩⟩, fresh5, q1⟩
theorem walk_zipS {x y : Str} {n : Nat} (hn : n = min x.cps.size y.cps.size) : Walk (ItzS x y) n (fun _ => True) (YPair (fun i => (x.cps[i]?).map fun c => .str ⟨#[c]⟩) (fun i => (y.cps[i]?).map fun c => .str ⟨#[c]⟩)) := by
  subst hn
  refine ⟨fun i _ hi q => ⟨by omega, by omega⟩, fun _ q => ⟨by omega, by omega, by omega⟩, fun i H v H' _ q y => ?_⟩
  obtain ⟨A, c, d, h1, h2, h3, h4, h5⟩ := y
  exact ⟨A, .str ⟨#[c]⟩, .str ⟨#[d]⟩, h1, h2, h3, by simp [h4], by simp [h5]⟩
section
variable {X : Cx} {T : Tx} {W : WX} {a b e tg : Expr} {ts : List Q.TE} {pos : Pos}
theorem gi_or {f g : List D → Option (List D)} (h1 : GI X T W tg e (sN f ts)) (h2 : GI X T W tg e (sN g ts)) : GI X T W tg e (sN (iOr f g) ts) := PI.imp (PI.or h1 h2) fun σ H R ⟨s, S, ω, rl, rs, q⟩ => by
  cases e0 : eArgs ts s S with
  | ok xs S1 =>
    cases e1 : f xs with
    | some ds =>
      have : sN (iOr f g) ts s S = sN f ts s S := by simp only [sN, iOr, e0, e1, Res.bind]
      exact .inl ⟨s, S, ω, rl, rs, by rw [← this]; exact q⟩
    | none =>
      have : sN (iOr f g) ts s S = sN g ts s S := by simp only [sN, iOr, e0, e1, Res.bind]
      exact .inr ⟨s, S, ω, rl, rs, by rw [← this]; exact q⟩
  | ex x S1 =>
    have : sN (iOr f g) ts s S = sN f ts s S := by simp [sN, e0, Res.bind]
    exact .inl ⟨s, S, ω, rl, rs, by rw [← this]; exact q⟩
  | err =>
    have : sN (iOr f g) ts s S = sN f ts s S := by simp [sN, e0, Res.bind]
    exact .inl ⟨s, S, ω, rl, rs, by rw [← this]; exact q⟩
theorem gi_zipS {p tpos : Pos} {elts : List Expr} {kk : Nat} (hg : Gl X "zip") (hm : X.mg "zip" = none) (ha : GA X T W [a, b] ts)
    (hs : starEach [a, b] X.env = (false, eval a X.env) :: starEach [b] X.env := by rfl) (hpl : (backTo pos (starEach [b] X.env)).any (·.1) = false := by rfl) :
    GI X T W (.Tuple elts kk tpos) (.Call (.Name "zip" p) [a, b] [] pos) (sN iZipS ts) :=
  gi_N (p := fun vs H1 R => ∃ x y, vs = [.str x, .str y] ∧ R (ItzS x y) H1) (pi_zipS hg hm ha hs hpl) (by
    intro ω S H xs us R ds rl r e k
    unfold Q.iZipS at e
    split at e
    · rename_i x y
      cases e
      obtain ⟨v, w, rfl, r1, r2⟩ := r.two
      have e1 := r1.str
      have e2 := r2.str
      subst e1 e2
      refine ⟨x, y, rfl, k _ (gives_pair (ds := chs x) (es := chs y) (n := min x.cps.size y.cps.size) rfl (by simp [chs]) (walk_zipS rfl) (fun _ _ => trivial) ?_ ?_)⟩
      · intro i d v hd hv
        simp only [chs, List.getElem?_map, Array.getElem?_toList] at hd
        cases e : x.cps[i]? with
        | none => rw [e] at hd; cases hd
        | some c => rw [e] at hd hv; cases hd; cases hv; exact Rp.mstr _
      · intro i d v hd hv
        simp only [chs, List.getElem?_map, Array.getElem?_toList] at hd
        cases e : y.cps[i]? with
        | none => rw [e] at hd; cases hd
        | some c => rw [e] at hd hv; cases hd; cases hv; exact Rp.mstr _
    · cases e)
theorem gi_zip {p tpos : Pos} {elts : List Expr} {kk : Nat} (hg : Gl X "zip") (hm : X.mg "zip" = none) (ha : GA X T W [a, b] ts)
    (hs : starEach [a, b] X.env = (false, eval a X.env) :: starEach [b] X.env := by rfl) (hpl : (backTo pos (starEach [b] X.env)).any (·.1) = false := by rfl) :
    GI X T W (.Tuple elts kk tpos) (.Call (.Name "zip" p) [a, b] [] pos) (sN iZip ts) := gi_or (gi_zipA hg hm ha hs hpl) (gi_zipS hg hm ha hs hpl)
end
def IteS (x : Str) : It :=
  ⟨fun i _ => i < x.cps.size, fun i H v H' => ∃ T c, v = .ref T ∧ H T = none ∧ H' = upd H T (.tup [.int (i : Nat), .str ⟨#[c]⟩]) ∧ x.cps[i]? = some c, fun i _ => i = x.cps.size⟩
theorem turn_enumS {P : Program} {w : World} {K : PySem.W.Frag} {elts : List Expr} {kk : Nat} {tpos : Pos} (e it : Addr) (x : Str) (t : Tok) :
    Turn P w K (.Tuple elts kk tpos) (IteS x) [e, it] e (fun i h => (∃ old, IsEnum h e it ((i : Nat) : Int) old) ∧ h.IsStrIter it (strIterType x) x t i ∧ e ≠ it) where
  mem := by simp
  obj := fun i h st b hb => by
    obtain ⟨⟨_, he⟩, ⟨p, k1, _, l1⟩, _⟩ := st
    simp only [List.mem_cons, List.not_mem_nil, or_false] at hb
    rcases hb with rfl | rfl
    · exact ⟨_, he, fun _ u => nomatch u⟩
    · exact ⟨p, k1, fun _ u => by rw [l1] at u; cases u⟩
  keep := fun i h h' st k => let ⟨⟨old, he⟩, ⟨o, ho, r⟩, hne⟩ := st; ⟨⟨old, k e (by simp) _ he⟩, ⟨o, k it (by simp) o ho, r⟩, hne⟩
  item := by
    intro X hP hw hK hc i pins s σ H E I hf st hg
    subst hP hw hK
    obtain ⟨⟨old, he⟩, hit, hne⟩ := st
    have hd : X.A.in1.handled = none := I.ok.hd hc
    have hel : e < s.heap.objs.size := Heap.lt_size he
    have hil : it < s.heap.objs.size := by obtain ⟨_, q, _⟩ := hit; exact Heap.lt_size q
    refine wpAny_pyNext_enum_itemC (Draws.text hd it x t) he hit hg hne (by simpa using hne) fun u h' tk hp ho hit' hT hsz hk => ?_
    obtain ⟨c, w1, hcx, rfl⟩ := hp
    refine ⟨_, rfl, wpAny_letOwnedTupleGo_enum (s := { s with heap := h', toks := tk + 1 }) ho fun h'' he' sb => ?_⟩
    have hT2 : h''.get? s.heap.objs.size = some { cls := .type "tuple", data := .seq #[.int i tk, .str ⟨#[c]⟩ w1] } := (sb.2 _ (Nat.ne_of_gt hel)).trans hT
    have new : ObjOk X.prog X.w (upd H s.heap.objs.size (.tup [.int (i : Nat), .str ⟨#[c]⟩])) h'' s.heap.objs.size (.tup [.int (i : Nat), .str ⟨#[c]⟩]) :=
      ⟨by show 2 ≤ sizeLine; decide, [.int i tk, .str ⟨#[c]⟩ w1], .cons ⟨_, rfl⟩ (.cons ⟨w1, rfl⟩ .nil), ⟨_, hT2, rfl, _, rfl⟩⟩
    have I1 : Inv X pins σ (upd H s.heap.objs.size (.tup [.int (i : Nat), .str ⟨#[c]⟩])) { s with heap := h'', toks := tk + 1 } :=
      I.turnedNew (ch := [e, it]) (fun b ob hb q => (sb.2 b (fun z => hb (by simp [z]))).trans (hk b ob (fun z => hb (by simp [z])) (fun z => hb (by simp [z])) q)) hf (Nat.le_refl _) new
    refine ⟨.ref s.heap.objs.size, _, I1, rfl, ⟨_, c, rfl, I.hok.fresh (Nat.le_refl _), rfl, hcx⟩, ⟨⟨.str ⟨#[c]⟩ w1, ?_⟩, ?_, hne⟩, fun b hb => ?_⟩
    · have e1 : ((i + 1 : Nat) : Int) = (i : Int) + 1 := by omega
      rw [e1]
      exact he'
    · obtain ⟨o, ho2, r⟩ := hit'
      exact ⟨o, (sb.2 it (Ne.symm hne)).trans ho2, r⟩
    · have hlt : b < s.heap.objs.size := by
        simp only [List.mem_cons, List.not_mem_nil, or_false] at hb
        rcases hb with rfl | rfl <;> assumption
      rw [upd_ne (Nat.ne_of_lt hlt)]
      exact (hf b hb).1
  done := by
    intro X hP hw hK hc i pins s σ H E I hf st hg
    subst hP hw hK
    obtain ⟨⟨old, he⟩, hit, hne⟩ := st
    have hd : X.A.in1.handled = none := I.ok.hd hc
    have hg' : i = x.cps.size := hg
    subst hg'
    exact wpAny_pyNext_enum_endD (Draws.text hd it x t) he hit fun h' hx => ⟨rfl, I.turnedL (t' := s.toks) (ch := [e, it]) (fun b o hb q => hx b o (fun z => hb (by simp [z])) q) hf⟩
  self := fun A i s Q E st h => let ⟨⟨_, he⟩, _⟩ := st; wpAny_pyIter_enum he h
def tEnumS (ta : L2.TA) : L2.TI := fun σ H R => ta σ H fun vs H1 => ∃ x, vs = [.str x] ∧ R (IteS x) H1
theorem pi_enumS {X : Cx} {e : Expr} {ta : L2.TA} {p pos tpos : Pos} {elts : List Expr} {kk : Nat} (hg : Gl X "enumerate") (hm : X.mg "enumerate" = none) (ha : PA X [e] ta) (hs : starEach [e] X.env = [(false, eval e X.env)] := by rfl) :
    PI X (.Tuple elts kk tpos) (.Call (.Name "enumerate" p) [e] [] pos) (tEnumS ta) := by
  refine ⟨fun pins s σ H R I h => ?_⟩
  refine Call_ (ld_blt I hg hm boot_enumerate (PyProof.Rows.callWith_type1 (thn (ha.run pos pins s σ H _ I h) fun us s1 ⟨vs, H1, I1, r1, q1⟩ => ?_) hs rfl))
  obtain ⟨x, ex, q1⟩ := q1
  subst ex
  cases r1 with
  | cons r rr =>
    cases rr
    obtain ⟨t1, rfl⟩ := r
    refine call_enumerate_str fun h' he hi hsz hk => wpAny_pyIter_enum he ?_
    have fresh2 : ∀ c, c ∈ [s1.heap.objs.size + 1, s1.heap.objs.size] → FpOk X pins H1 c := fun c hcm => by
      simp only [List.mem_cons, List.not_mem_nil, or_false] at hcm
      have low : s1.heap.objs.size ≤ c := by
        rcases hcm with rfl | rfl
        · exact Nat.le_add_right _ 1
        · exact Nat.le_refl _
      exact I1.fpOk low (I1.hok.fresh low)
    have I2 : Inv X pins σ H1 { s1 with heap := h' } := I1.kept (t' := s1.toks) hk
    exact ⟨s1.heap.objs.size + 1, [s1.heap.objs.size + 1, s1.heap.objs.size], _, _, H1, rfl, I2, turn_enumS _ _ x t1, ⟨⟨_, he⟩, hi, show (s1.heap.objs.size + 1 : Nat) ≠ s1.heap.objs.size by omega⟩, fresh2, q1⟩
theorem walk_enumS {x : Str} : Walk (IteS x) x.cps.size (fun _ => True) (YPair (fun i => some (.int (i : Nat))) (fun i => (x.cps[i]?).map fun c => .str ⟨#[c]⟩)) := by
  refine ⟨fun i _ hi q => hi, fun _ q => rfl, fun i H v H' _ q y => ?_⟩
  obtain ⟨A, c, h1, h2, h3, h4⟩ := y
  exact ⟨A, .int (i : Nat), .str ⟨#[c]⟩, h1, h2, h3, rfl, by simp [h4]⟩
section
variable {X : Cx} {T : Tx} {W : WX} {a : Expr} {ts : List Q.TE} {pos : Pos}
theorem gi_enumS {p tpos : Pos} {elts : List Expr} {kk : Nat} (hg : Gl X "enumerate") (hm : X.mg "enumerate" = none) (ha : GA X T W [a] ts) (hs : starEach [a] X.env = [(false, eval a X.env)] := by rfl) :
    GI X T W (.Tuple elts kk tpos) (.Call (.Name "enumerate" p) [a] [] pos) (sN iEnumS ts) :=
  gi_N (p := fun vs H1 R => ∃ x, vs = [.str x] ∧ R (IteS x) H1) (pi_enumS hg hm ha hs) (by
    intro ω S H xs us R ds rl r e k
    unfold Q.iEnumS at e
    split at e
    · rename_i x
      cases e
      obtain ⟨v, rfl, r1⟩ := r.one
      have e1 := r1.str
      subst e1
      refine ⟨x, rfl, k _ (gives_pair (ds := (List.range x.cps.size).map fun (i : Nat) => .int (i : Nat)) (es := chs x) (n := x.cps.size) rfl (by simp [chs]) walk_enumS (fun _ _ => trivial) ?_ ?_)⟩
      · intro i d v hd hv
        cases hv
        rw [List.getElem?_map] at hd
        cases e : (List.range x.cps.size)[i]? with
        | none => rw [e] at hd; cases hd
        | some j =>
          rw [e] at hd
          cases hd
          obtain ⟨h1, h2⟩ := List.getElem?_eq_some_iff.mp e
          rw [List.getElem_range] at h2
          subst h2
          exact Rp.mint _
      · intro i d v hd hv
        simp only [chs, List.getElem?_map, Array.getElem?_toList] at hd
        cases e : x.cps[i]? with
        | none => rw [e] at hd; cases hd
        | some c => rw [e] at hd hv; cases hd; cases hv; exact Rp.mstr _
    · cases e)
theorem gi_enum {p tpos : Pos} {elts : List Expr} {kk : Nat} (hg : Gl X "enumerate") (hm : X.mg "enumerate" = none) (ha : GA X T W [a] ts) (hs : starEach [a] X.env = [(false, eval a X.env)] := by rfl) :
    GI X T W (.Tuple elts kk tpos) (.Call (.Name "enumerate" p) [a] [] pos) (sN iEnum ts) := gi_or (gi_enumL hg hm ha hs) (gi_enumS hg hm ha hs)
end
end Q
set_option maxHeartbeats 1000000
namespace Q
open PySem PySem.Spec PyProof.Rows L2
abbrev VEt : List Value := [.type "ValueError", .type "Exception", .type "BaseException", .type "object"]
structure EC (K : PySem.W.Frag) (mg : Str → Option Value) (x : Str) (C : Addr) : Prop where
  g : mg x = some (.ref C)
  kp : PySem.W.keepIn K (.ref C) = true
  exc : PySem.W.excIn K C VEt "ValueError.__new__" = true
  sub : PySem.W.subIn K (.ref C) (.type "BaseException") = some true
  ty : PySem.W.typeIn K (.ref C) = some (.type "type")
section
variable {X : Cx} {T : Tx} {W : WX} {p pos : Pos} {x : Str} {C : Addr} {c : Nat}
theorem pmk_own0 (F : EC X.K X.mg x C) (hg : Gl X x) (hdb : (x == ("__debug__" : Str)) = false := by decide) : PMk X (.Call (.Name x p) [] [] pos) (fun _ H Q => Q (.ref C) none H) := by
  intro pins s σ H Q I h
  refine wpAny_Call_Name_kw (ld_glob I hg F.g ?_ hdb)
  refine PySem.W.callWith_K0 I.kIn F.kp ?_
  obtain ⟨bm, N, nm, qn, bs, hdct, sn, sub, ab, col, dd, k0, k1, k2, k3, k5, mN, hC, hN, hni, T⟩ := exc_obj I.kIn F.exc
  exact wpAny_call_exc_subT _root_.PySem.F.excBase_ValueError T hC hN hni (fun h' e hm => mk_of I hm (raises_own F.sub F.ty) h (I.hok.gone hm.new)) (Nat.zero_le _)
theorem gs_raise0 {pos' : Pos} (F : EC X.K X.mg x (T.cl c)) (hc : X.calm = true) (tk : Takes X W) (hg : Gl X x) (hdb : (x == ("__debug__" : Str)) = false := by decide) : GS X T W (.Raise (some (.Call (.Name x p) [] [] pos)) none pos') (tRaise c) :=
  PS.imp (ps_raise hc tk (pmk_own0 F hg hdb)) fun D σ H ⟨s, S, ω, rl, rs, q⟩ => q ω σ H (.ref (T.cl c)) none Ext.refl rl rs ⟨rfl, rfl⟩
def Wall (n : Nat) (W : WX) : WX := fun cls d _ H => ∀ σ : L2.St, σ.length = n → W cls d σ H
theorem takes_all {X : Cx} {W : WX} (t : Takes X W) : Takes X (Wall X.N.length W) := fun u s' ⟨a, B, sI, pins, σ, H, cls, d, e, I, nb, up, sky, na, os, ag, w⟩ =>
  t u s' ⟨a, B, sI, pins, σ, H, cls, d, e, I, nb, up, sky, na, os, ag, w σ I.len⟩
def Indep (W : WX) : Prop := ∀ cls d (σ1 σ2 : L2.St) H, W cls d σ1 H → W cls d σ2 H
theorem wall_indep {n : Nat} {W : WX} : Indep (Wall n W) := fun _ _ _ _ _ h => h
inductive HdsQ (X : Cx) (T : Tx) : List ExceptHandler → List (Nat × TSt) → Prop
  | nil : HdsQ X T [] []
  | cons {x : Str} {c : Nat} {t : TSt} {b₀ : Stmt} {suite : List Stmt} {np pos' : Pos} {hds : List ExceptHandler} {l : List (Nat × TSt)} (hc : Names X x (.ref (T.cl c)))
      (hsu : ∀ (a : Addr) (oe : Obj) (pn : List (Addr × Obj)), GSs (X.suite a ((a, oe) :: pn)) T Wn (b₀ :: suite) t) (r : HdsQ X T hds l) :
      HdsQ X T (.ExceptHandler (some (.Name x np)) none (b₀ :: suite) pos' :: hds) ((c, t) :: l)
def hdsTS (K : PySem.W.Frag) (T : Tx) (hs : List (Nat × TSt)) : List (Value × (Addr → Value → Option Addr → L2.TS)) := hs.map fun q => (.ref (T.cl q.1), fun _ _ _ => tSr K T Wn q.2)
theorem HdsQ.ok {hds : List ExceptHandler} {hs : List (Nat × TSt)} (h : HdsQ X T hds hs) : HdsOk X hds (hdsTS X.K T hs) := by
  induction h with
  | nil => exact .nil
  | cons hc hsu r ih => exact .cons hc (fun a oe cls d pn _ _ => hsu a oe pn) ih
theorem SPg.noEx {K : PySem.W.Frag} {D : Ends} {ω : Wd} {S : Store} {H : Hp} {r : RS} (h : SPg K T W D ω S H (Q.noEx r)) : SPg K T Wn D ω S H r := by
  cases r with
  | none => exact h
  | some p =>
    obtain ⟨f, S'⟩ := p
    cases f <;> first | exact h | exact (show False from h).elim
theorem Rs.none {K : PySem.W.Frag} {T : Tb} {ω : Wd} {n : Nat} {σ : L2.St} (h : σ.length = n) : Rs K T ω (List.replicate n none) σ := by
  refine ⟨by rw [List.length_replicate, h], fun i d z => ?_⟩
  rw [List.getElem?_replicate] at z
  split at z <;> cases z
theorem gs_tryF {n : Nat} {cs : List Nat} {body : List Stmt} {h₀ : ExceptHandler} {hds : List ExceptHandler} {tb : TSt} {hs : List (Nat × TSt)} (hst : X.stack = X.env :: X.outer) (hf : X.env.frame = some X.env.locals) (tk : Takes X W) (hn : X.N.length = n)
    (hx : ∀ c ∈ cs, ∀ q ∈ hs, PySem.W.exmOne X.K (.ref (T.cl c)) (.ref (T.cl q.1)) = some (isSub c q.1))
    (hb : ∀ (W' : WX) (pn : List (Addr × Obj)) (xe : Value → Shared → Prop), Indep W' → Takes (X.tr pn xe) W' → GSs (X.tr pn xe) T W' body tb) (hh : HdsQ X T (h₀ :: hds) hs) :
    GS X T W (.Try body (h₀ :: hds) [] [] pos) (tTryF n cs tb hs) :=
  PS.imp (ps_try_many hst hf tk (tb := fun W' => tSr X.K T (Wall n W') tb) (fun W' pn xe tk' _ => hb (Wall n W') pn xe wall_indep (hn ▸ takes_all tk')) hh.ok) fun D σ H ⟨s, S, ω, rl, rs, q⟩ => by
    refine ⟨s, S, ω, rl, rs, ?_⟩
    unfold tTryF at q
    cases e : tb s S with
    | none => rw [e] at q; exact q
    | some r =>
      obtain ⟨f, S'⟩ := r
      rw [e] at q
      cases f with
      | nx s1 => exact q
      | ret d => exact q
      | bk s1 => exact q
      | ct s1 => exact q
      | ex x s1 =>
        simp only at q
        by_cases hc : x.cls ∈ cs
        · rw [if_pos hc] at q
          intro ω' σ' H' cls dd ex rl' rs' er σ2 hl
          have go : ∀ (l : List (Nat × TSt)), (∀ q ∈ l, q ∈ hs) → (match hFind x.cls l with
              | some t => SPg X.K T W D ω S H (Q.noEx (t (List.replicate n Option.none) S'))
              | none => False) → wMany X.K W D (hdsTS X.K T l) cls dd σ2 H' := by
            intro l
            induction l with
            | nil => intro _ z; exact z.elim
            | cons q0 l ih =>
              intro hm z
              obtain ⟨d0, t0⟩ := q0
              refine ⟨isSub x.cls d0, by rw [er.1]; exact hx _ hc (d0, t0) (hm _ List.mem_cons_self), fun hb a _ => ?_, fun hb => ?_⟩
              · unfold hFind at z
                rw [if_pos hb] at z
                exact ⟨_, S', ω', rl', Rs.none hl, SPg.shift ex (SPg.noEx z)⟩
              · unfold hFind at z
                rw [if_neg (by rw [hb]; decide)] at z
                exact ih (fun q hq => hm q (List.mem_cons_of_mem _ hq)) z
          refine go hs (fun _ h => h) ?_
          cases hF : hFind x.cls hs with
          | none => rw [hF] at q; exact q
          | some t => rw [hF] at q; exact q
        · rw [if_neg hc] at q; exact q.elim
end
section
variable {K : PySem.W.Frag} {T T' : Tb} {ω : Wd}
mutual
theorem Rp.tb (hc : T'.cl = T.cl) (hf : ∀ i, i ≠ 0 → T'.fa i = T.fa i) : ∀ (d : D) (v : V), d.flat = true → Rp K T ω d v → Rp K T' ω d v
  | .non, v, _, h => h
  | .bl b, v, _, h => h
  | .int i, v, _, h => h
  | .str x, v, _, h => h
  | .tup ds, v, f, h => by
    unfold Rp at h ⊢
    obtain ⟨a, vs, e, q, r⟩ := h
    exact ⟨a, vs, e, q, Rps.tb hc hf ds vs f r⟩
  | .lst ds, v, f, h => by
    unfold Rp at h ⊢
    obtain ⟨a, vs, e, q, r⟩ := h
    exact ⟨a, vs, e, q, Rps.tb hc hf ds vs f r⟩
  | .ins C fs, v, f, h => by
    unfold Rp at h ⊢
    obtain ⟨a, dx, gs, e, q, r⟩ := h
    exact ⟨a, dx, gs, e, by rw [hc]; exact q, Rpf.tb hc hf fs gs f r⟩
  | .dct fs, v, f, h => by
    unfold Rp at h ⊢
    obtain ⟨a, gs, e, q, r⟩ := h
    exact ⟨a, gs, e, q, Rpk.tb hc hf fs gs f r⟩
  | .odc, v, f, h => by unfold Rp at h ⊢; exact h
  | .lam, v, f, h => by cases f
  | .ptr k, v, f, h => by cases f
  | .obj k, v, f, h => by cases f
  | .src ns, v, f, h => by unfold Rp at h ⊢; exact h
  | .fn id, v, f, h => by
    unfold Rp at h ⊢
    have hid : id ≠ 0 := by simpa [D.flat] using f
    rw [hf id hid]
    exact h
  | .exc c args, v, f, h => by cases f
theorem Rps.tb (hc : T'.cl = T.cl) (hf : ∀ i, i ≠ 0 → T'.fa i = T.fa i) : ∀ (ds : List D) (vs : List V), flats ds = true → Rps K T ω ds vs → Rps K T' ω ds vs
  | [], vs, _, h => h
  | d :: ds, vs, f, h => by
    unfold Rps at h ⊢
    obtain ⟨v, ws, e, q, r⟩ := h
    unfold flats at f
    rw [Bool.and_eq_true] at f
    exact ⟨v, ws, e, Rp.tb hc hf d v f.1 q, Rps.tb hc hf ds ws f.2 r⟩
theorem Rpf.tb (hc : T'.cl = T.cl) (hf : ∀ i, i ≠ 0 → T'.fa i = T.fa i) : ∀ (fs : List (Str × D)) (gs : List (Str × V)), flatf fs = true → Rpf K T ω fs gs → Rpf K T' ω fs gs
  | [], gs, _, h => h
  | (g, d) :: fs, gs, f, h => by
    unfold Rpf at h ⊢
    obtain ⟨v, hs, e, q, r⟩ := h
    unfold flatf at f
    rw [Bool.and_eq_true] at f
    exact ⟨v, hs, e, Rp.tb hc hf d v f.1 q, Rpf.tb hc hf fs hs f.2 r⟩
theorem Rpk.tb (hc : T'.cl = T.cl) (hf : ∀ i, i ≠ 0 → T'.fa i = T.fa i) : ∀ (fs : List (Key × D)) (gs : List (Key × V)), flatk fs = true → Rpk K T ω fs gs → Rpk K T' ω fs gs
  | [], gs, _, h => h
  | (g, d) :: fs, gs, f, h => by
    unfold Rpk at h ⊢
    obtain ⟨v, hs, e, q, r⟩ := h
    unfold flatk at f
    rw [Bool.and_eq_true] at f
    exact ⟨v, hs, e, Rp.tb hc hf d v f.1 q, Rpk.tb hc hf fs hs f.2 r⟩
end
theorem Rp.tbo (hc : T'.cl = T.cl) (hf : ∀ i, i ≠ 0 → T'.fa i = T.fa i) (d : D) (v : V) (f : d.flato = true) (h : Rp K T ω d v) : Rp K T' ω d v := by
  cases d with
  | obj k => unfold Rp at h ⊢; exact h
  | _ => exact Rp.tb hc hf _ v f h
theorem Rpf.tbo (hc : T'.cl = T.cl) (hf : ∀ i, i ≠ 0 → T'.fa i = T.fa i) : ∀ (fs : List (Str × D)) (gs : List (Str × V)), flatfo fs = true → Rpf K T ω fs gs → Rpf K T' ω fs gs
  | [], gs, _, h => h
  | (g, d) :: fs, gs, f, h => by
    unfold Rpf at h ⊢
    obtain ⟨v, hs, e, q, r⟩ := h
    unfold flatfo at f
    rw [Bool.and_eq_true] at f
    exact ⟨v, hs, e, Rp.tbo hc hf d v f.1 q, Rpf.tbo hc hf fs hs f.2 r⟩
theorem RpkT.tb (hc : T'.cl = T.cl) (hf : ∀ i, i ≠ 0 → T'.fa i = T.fa i) : ∀ (fs : List (List Key × D)) (gs : List (List Key × V)), flatkT fs = true → RpkT K T ω fs gs → RpkT K T' ω fs gs
  | [], gs, _, h => h
  | (g, d) :: fs, gs, f, h => by
    unfold RpkT at h ⊢
    obtain ⟨v, hs, e, q, r⟩ := h
    unfold flatkT at f
    rw [Bool.and_eq_true] at f
    exact ⟨v, hs, e, Rp.tb hc hf d v f.1 q, RpkT.tb hc hf fs hs f.2 r⟩
theorem Lvr.tb (hc : T'.cl = T.cl) (hf : ∀ i, i ≠ 0 → T'.fa i = T.fa i) : ∀ {v : Lv} {o : HO}, v.flat = true → Lvr K T ω v o → Lvr K T' ω v o
  | .ins _ fs, _, f, ⟨dx, gs, e, r⟩ => ⟨dx, gs, by rw [hc]; exact e, Rpf.tbo hc hf fs gs f r⟩
  | .dct kvs, _, f, ⟨ws, e, r⟩ => ⟨ws, e, Rpk.tb hc hf kvs ws f r⟩
  | .dctT kvs, _, f, ⟨ws, e, r⟩ => ⟨ws, e, RpkT.tb hc hf kvs ws f r⟩
theorem Rl.tb {S : Store} {H : Hp} (hc : T'.cl = T.cl) (hf : ∀ i, i ≠ 0 → T'.fa i = T.fa i) (ht : T'.tabs = T.tabs) (rl : Rl K T ω S H) (hp : Pins T'.pin ω H) (hlm : T'.lam = T.lam := by rfl) : Rl K T' ω S H :=
  ⟨⟨rl.sub, rl.len, fun k ds h => let ⟨a1, a2, vs, a3, a4⟩ := rl.obj k ds h; ⟨a1, a2, vs, a3, Rps.tb hc hf ds vs a2 a4⟩, rl.inj, rl.lenO,
    fun k v h => let ⟨a1, a2, o2, a3, a4⟩ := rl.objO k v h; ⟨a1, a2, o2, a3, Lvr.tb hc hf a2 a4⟩, rl.injO, rl.nt, by rw [ht]; exact ⟨rl.tab.1, fun I hI f hf => rl.tab.2 I (by rw [← hlm]; exact hI) f hf⟩⟩, hp⟩
end
def Tl (T : Tx) (f : Addr) (pn : Wd × Addr × Str) : Tx := { T with fa := fun i => if i = 0 then f else T.fa i, pin := pn :: T.pin }
section
variable {K : PySem.W.Frag} {T : Tx} {ω : Wd} {f : Addr} {pn : Wd × Addr × Str} {S : Store} {H : Hp}
theorem tl_fa (i : Nat) (h : i ≠ 0) : (Tl T f pn).fa i = T.fa i := if_neg h
theorem Rl.into (rl : Rl K T.toTb ω S H) (h : Later pn.1 ω ∧ H pn.2.1 = some (LamX.CodeO pn.2.1 pn.2.2)) : Rl K (Tl T f pn).toTb ω S H :=
  Rl.tb (T := T.toTb) (T' := (Tl T f pn).toTb) rfl (fun i => tl_fa i) rfl rl fun p hp => by
    rcases List.mem_cons.mp hp with rfl | hp
    · exact h
    · exact rl.pinned p hp
theorem Rl.outof (rl : Rl K (Tl T f pn).toTb ω S H) : Rl K T.toTb ω S H :=
  Rl.tb (T := (Tl T f pn).toTb) (T' := T.toTb) rfl (fun i h => (tl_fa i h).symm) rfl rl fun p hp => rl.pinned p (List.mem_cons_of_mem _ hp)
theorem Rl.pnd (rl : Rl K (Tl T f pn).toTb ω S H) : Later pn.1 ω ∧ H pn.2.1 = some (LamX.CodeO pn.2.1 pn.2.2) := rl.pinned pn List.mem_cons_self
theorem Rp.into {d : D} {v : V} (h : d.flat = true) (r : Rp K T.toTb ω d v) : Rp K (Tl T f pn).toTb ω d v := Rp.tb (T := T.toTb) (T' := (Tl T f pn).toTb) rfl (fun i => tl_fa i) d v h r
theorem Rp.outof {d : D} {v : V} (h : d.flat = true) (r : Rp K (Tl T f pn).toTb ω d v) : Rp K T.toTb ω d v := Rp.tb (T := (Tl T f pn).toTb) (T' := T.toTb) rfl (fun i h => (tl_fa i h).symm) d v h r
theorem ExR.into {e : Ex} {cls : Value} {dd : Option Addr} (h : flats e.args = true) (r : ExR K T ω e cls dd) : ExR K (Tl T f pn) ω e cls dd := by
  obtain ⟨r1, r2⟩ := r
  refine ⟨r1, ?_⟩
  cases ea : e.args with
  | nil => rw [ea] at r2; exact r2
  | cons x xs =>
    cases xs with
    | cons y ys => rw [ea] at r2; exact r2
    | nil =>
      rw [ea] at r2 h
      obtain ⟨d, v, e1, e2, e3⟩ := r2
      have hx : x.flat = true := by
        unfold flats at h
        rw [Bool.and_eq_true] at h
        exact h.1
      exact ⟨d, v, e1, e2, Rp.into hx e3⟩
end
section
variable {X : Cx} {T : Tx} {W : WX}
theorem ge_act {Z : Cx} {K : PySem.W.Frag} (hK : Z.K = K) {a q : Str} {f c' : Addr} {p1 p2 : Pos} {ω0 : Wd} {s0 : Sl} {σ : L2.St} {te : Q.TE} (hW : Indep W) (rs0 : Rs K T.toTb ω0 s0 σ)
    (act : ∀ E : XK, (∀ cls d σ' H', E cls d H' → W cls d σ' H') → PE Z (.Call (.Name a p1) [] [] p2) (fun σZ HZ Qv => σZ[0]? = some (some (.ref f)) ∧ HZ c' = some (LamX.CodeO c' q) ∧ tEr K T (fun cls dd _ H => E cls dd H) te σ HZ Qv)) :
    GE Z (Tl T f (ω0, c', q)) W (.Call (.Name a p1) [] [] p2) (eAct 0 fun S => flatR (te s0 S)) := by
  subst hK
  refine PE.imp (act (fun cls d H' => W cls d [] H') fun cls d σ' H' h => hW _ _ _ _ _ h) ?_
  rintro σZ HZ Qv ⟨sZ, SZ, ωZ, rl, rs, ep⟩
  unfold eAct at ep
  cases hs : sZ[0]? with
  | none => rw [hs] at ep; exact ep.elim
  | some o =>
    rw [hs] at ep
    cases o with
    | none => exact ep.elim
    | some d =>
      cases d with
      | fn id =>
        cases id with
        | succ n => exact ep.elim
        | zero =>
          obtain ⟨v, h1, h2⟩ := rs.2 0 _ hs
          have h2' : v = .ref f := by unfold Rp at h2; exact h2
          subst h2'
          obtain ⟨lt, hc⟩ := rl.pnd
          refine ⟨h1, hc, s0, SZ, ωZ, rl.outof, ⟨rs0.1, fun i d z => let ⟨v, e1, r⟩ := rs0.2 i d z; ⟨v, e1, r.late lt⟩⟩, ?_⟩
          have pe : ∀ {ω' S' H'}, Ext ωZ SZ HZ ω' S' H' → Rl Z.K T.toTb ω' S' H' → Rl Z.K (Tl T f (ω0, c', q)).toTb ω' S' H' := fun {ω' S' H'} ex rl' => rl'.into (pin_ext rl ex rl'.sub (ω0, c', q) List.mem_cons_self)
          have ep' : EPg Z.K (Tl T f (ω0, c', q)) (Rp Z.K (Tl T f (ω0, c', q)).toTb) W σZ ωZ SZ HZ (flatR (te s0 SZ)) Qv := ep
          cases e : te s0 SZ with
          | err => rw [e] at ep'; exact ep'
          | ok d S' =>
            rw [e] at ep'
            unfold flatR at ep'
            simp only at ep'
            by_cases hf : d.flat = true
            · rw [if_pos hf] at ep'
              exact fun ω' H' v ex rl' r => ep' ω' H' v ex (pe ex rl') (r.into hf)
            · rw [if_neg hf] at ep'; exact ep'.elim
          | ex x S' =>
            rw [e] at ep'
            unfold flatR at ep'
            simp only at ep'
            by_cases hf : flats x.args = true
            · rw [if_pos hf] at ep'
              exact fun ω' H' cls dd ex rl' r => hW _ _ _ _ _ (ep' ω' H' cls dd ex (pe ex rl') (r.into hf))
            · rw [if_neg hf] at ep'; exact ep'.elim
      | _ => exact ep.elim
theorem ge_told {n k : Nat} {x a : Str} {g c P : Addr} {fd : FuncData} {pg : Arguments} {bg : List Stmt} {sg : Scope} {Ng : List Str} {params : Arguments} {body : Expr} {scope : Scope} {p lpos pos : Pos} {b : (Store → Res D) → TSt} {te : Q.TE}
    (F : FunD X.K x x pg bg sg [] [] g fd) (hg : Gl X x) (hm : X.mg x = some (.ref g)) (hbd : L2.Binds X.K fd [a] []) (Sg : FnScope Ng [a] sg) (hNg : Ng[0]? = some a) (hva : Vis sg a) (hn : Ng.length = n + 1)
    (hbody : ∀ (cdg : Value) (f : Addr) (pn : Wd × Addr × Str) (s : Shared) (H : Hp) (th : Store → Res D),
      (∀ (W : WX) (pn' : List (Addr × Obj)) (xe : Value → Shared → Prop) (p1 p2 : Pos), Indep W → Takes ((cxOf C8.CX0 X.prog X.w X.K X.mg X.base Ng x sg g cdg X.A X.stack s H C8.E0).tr pn' xe) W →
        GE ((cxOf C8.CX0 X.prog X.w X.K X.mg X.base Ng x sg g cdg X.A X.stack s H C8.E0).tr pn' xe) (Tl T f pn) W (.Call (.Name a p1) [] [] p2) (eAct 0 th)) →
      GSs (cxOf C8.CX0 X.prog X.w X.K X.mg X.base Ng x sg g cdg X.A X.stack s H C8.E0).nox (Tl T f pn) Wn bg (b th))
    (TB : LamX.TabB X.base X.mg c P) (hcode : X.env.code = .ref c) (hmT : (P, X.env.qual ++ "<lambda>") ∈ T.tabs) (hu : ∀ p ∈ T.tabs, p.1 = P → p.2 = X.env.qual ++ "<lambda>") (hr : Room (k + 2) X.A) (L : LamX.LamS X.env.scope scope) (hdef : defaultsOf params X.env = ([], []))
    (hbind : ∀ (q : Str) (cl : List (Str × Addr)) (pm cv ctv : Value), bindArgs (PySem.W.kla_fn "<lambda>" q params body scope cl pm cv ctv) ⟨[], []⟩ = pure [])
    (hte : ∀ (A : Around) (outer : List Env) (s : Shared) (H : Hp) (E : XK) (f c' : Addr), Room k (A.deeper (LamX.lamEnv X scope s.heap.objs.size f c')) → GE (LamX.lamCx X A outer s H E scope f c') T (fun cls dd _ H => E cls dd H) body te)
    (hdb : (x == ("__debug__" : Str)) = false := by decide) (hd : (a == ("__debug__" : Str)) = false := by decide) (hcd : (a == ("__classdict__" : Str)) = false := by decide) :
    GE X T W (.Call (.Name x p) [.Lambda params body scope lpos] [] pos) (eTold true n b te) := by
  obtain ⟨oc, od, dV, kV, doc, pm, an, cdv, ct, osl, rfl, lk, hcg, _, _⟩ := F.ex
  refine PE.imp (LamX.pe_lamcall (T := T.tabs) (t := fun E => tEr X.K T (fun cls dd _ H => E cls dd H) te)
    (TT := fun tl H Qv => ∃ s S ω σ, Rl X.K T.toTb ω S H ∧ Rs X.K T.toTb ω s σ ∧ (tl = fun E H' Q' => tEr X.K T (fun cls dd _ H => E cls dd H) te σ H' Q') ∧ EPg X.K T (Rp X.K T.toTb) Wn [] ω S H (eTold true n b te s S) Qv)
    hg hm F.kp lk hcg hbd Sg hNg hva ?_ TB hcode hmT hu hr L hdef hbind hte hdb hd hcd) ?_
  · intro f c' s0 H Qv tl act hc ⟨s, S, ω, σ, rl, rs, htl, q⟩
    subst htl
    refine ⟨_, hbody cdv f (ω, c', X.env.qual ++ "<lambda>") s0 H (fun S1 => flatR (te s S1)) (fun W pn' xe p1 p2 hW tk => ge_act (Z := (cxOf C8.CX0 X.prog X.w X.K X.mg X.base Ng x sg g cdv X.A X.stack s0 H C8.E0).tr pn' xe) (K := X.K) rfl hW rs fun E hE => act W pn' xe E p1 p2 tk hE), ?_⟩
    refine ⟨some (.fn 0) :: List.replicate n none, S, ω, rl.into ⟨Later.refl, hc⟩, ⟨?_, fun i d z => ?_⟩, ?_⟩
    · show (some (D.fn 0) :: List.replicate n none).length = _
      have e1 : (L2.start Ng [V.ref f]).length = Ng.length := by simp [L2.start]; omega
      rw [e1, hn]
      simp
    · cases i with
      | zero =>
        cases z
        refine ⟨.ref f, ?_, by unfold Rp; rfl⟩
        simp [L2.start]
      | succ i =>
        rw [List.getElem?_cons_succ, List.getElem?_replicate] at z
        split at z <;> cases z
    · unfold eTold at q
      rw [if_pos rfl] at q
      cases e : b (fun S1 => flatR (te s S1)) (some (.fn 0) :: List.replicate n none) S with
      | none => rw [e] at q; exact q
      | some r =>
        obtain ⟨fl, S'⟩ := r
        rw [e] at q
        cases fl with
        | nx s1 => exact fun ω' σ' H' ex rl' _ => q ω' H' .non ex rl'.outof (by unfold Rp; rfl)
        | bk s1 => exact q.elim
        | ct s1 => exact q.elim
        | ex y s1 => exact q.elim
        | ret d =>
          simp only at q
          by_cases hf : d.flat = true
          · rw [if_pos hf] at q
            exact fun ω' H' v ex rl' r => q ω' H' v ex rl'.outof (r.outof hf)
          · rw [if_neg hf] at q; exact q.elim
  · rintro σ H Qv ⟨s, S, ω, rl, rs, q⟩
    refine ⟨rl.tab.1, fun H1 eN t1 => ?_⟩
    obtain ⟨ex, rl1⟩ := rl.extN eN t1
    refine ⟨s, S, ω, σ, rl1, rs.ext ex, rfl, ?_⟩
    have q2 := EPg.shift ex q
    cases e : eTold true n b te s S with
    | ok d S' => rw [e] at q2; exact q2
    | err => rw [e] at q2; exact q2
    | ex y S' =>
      exfalso
      unfold eTold at e
      rw [if_pos rfl] at e
      split at e
      · split at e <;> cases e
      · cases e
      · cases e
end
section
variable {X : Cx} {T : Tx} {W : WX} {e : Expr} {es : List Expr} {ts : List Q.TE} {pos : Pos}
theorem ge_fnB {k j id : Nat} {Pr : Prog} {f : Addr} {ps : List Str} {x : Str} {p : Pos} (hk : k = j + 2) (hP : Pr (id + 1000000) = none) (F : FnO X.prog X.w X.K X.mg X.base T Pr j id x f ps) (hr : Room j X.A) (tk : Takes X W) (hg : Gl X x) (ha : GA X T W (e :: es) ts)
    (hdb : (x == ("__debug__" : Str)) = false := by decide) (he : starEach (e :: es) X.env = (false, eval e X.env) :: starEach es X.env := by rfl) (hpl : (backTo pos (starEach es X.env)).any (·.1) = false := by rfl) :
    GE X T W (.Call (.Name x p) (e :: es) [] pos) (eCall (callN Pr k) (id + 1000000) ts) := by
  subst hk
  have e1 : eCall (callN Pr (j + 2)) (id + 1000000) ts = eCall (callN Pr j) id ts := by
    funext s S
    unfold eCall
    congr 1
    funext xs S1
    exact callN_low hP
  rw [e1]
  exact ge_fn F hr tk hg ha hdb he hpl
theorem ge_err : GE X T W e (fun _ _ => .err) := PE.imp (t := fun _ _ _ => False) ⟨fun pins s σ H Qv I h => h.elim⟩ fun σ H Qv ⟨s, S, ω, rl, rs, q⟩ => q
theorem ge_toldC {k n : Nat} {Pr : Prog} {b : (Store → Res D) → TSt} {te : Q.TE} (h0 : Pr 999999 = none) (h : ∀ j, k = j + 2 → GE X T W e (eTold true n b te)) : GE X T W e (eTold (deep (callN Pr k)) n b te) := by
  have ez : eTold false n b te = fun _ _ => Res.err := by
    funext s S
    rfl
  match k, h with
  | 0, _ => rw [deep_zero, ez]; exact ge_err
  | 1, _ => rw [deep_one h0, ez]; exact ge_err
  | j + 2, h => rw [deep_low h0]; exact h j rfl
end
theorem srt_uniq {ns ms : List Int} (p : ms.Perm ns) (o : ms.Pairwise (· ≤ ·)) : ms = srt ns := by
  have h1 : (srt ns).Perm ns := List.mergeSort_perm ns _
  have h2 : (srt ns).Pairwise (· ≤ ·) := by
    have := List.pairwise_mergeSort (le := fun a b : Int => decide (a ≤ b)) (fun a b c h1 h2 => by simp at *; omega) (fun a b => by simp; omega) ns
    exact this.imp fun h => by simpa using h
  exact List.Perm.eq_of_pairwise (le := (· ≤ ·)) (fun a b _ _ h1 h2 => Int.le_antisymm h1 h2) o h2 (p.trans h1.symm)
theorem rising_ok : ∀ (r : List Str) (p : Str), risingS p r = true → (p :: r).Pairwise fun a b => a.cps.toList ≤ b.cps.toList
  | [], p, _ => by simp
  | x :: r, p, h => by
    have h' : (!Spec.ltCps x.cps.toList p.cps.toList && risingS x r) = true := h
    rw [Bool.and_eq_true, ltCps_eq] at h'
    obtain ⟨h1, h2⟩ := h'
    have h3 : p.cps.toList ≤ x.cps.toList := by
      rw [Bool.not_eq_true', decide_eq_false_iff_not] at h1
      exact List.not_lt.mp h1
    have ih := rising_ok r x h2
    refine List.Pairwise.cons (fun y hy => ?_) ih
    rcases List.mem_cons.mp hy with rfl | hy
    · exact h3
    · exact List.le_trans h3 ((List.pairwise_cons.mp ih).1 y hy)
theorem sortedS_ok : ∀ (r : List Str), sortedS r = true → r.Pairwise fun a b => a.cps.toList ≤ b.cps.toList
  | [], _ => by simp
  | x :: r, h => rising_ok r x h
theorem str_of_cps {a b : Str} (h : a.cps.toList = b.cps.toList) : a = b := by
  cases a
  cases b
  congr 1
  exact Array.toList_inj.mp h
theorem srtS_sorted (ns : List Str) : (srtS ns).Pairwise fun a b => a.cps.toList ≤ b.cps.toList := by
  have := List.pairwise_mergeSort (le := fun a b : Str => decide (a.cps.toList ≤ b.cps.toList)) (fun a b c h1 h2 => by
    simp only [decide_eq_true_eq] at *
    exact List.le_trans h1 h2) (fun a b => by
    simp only [Bool.or_eq_true, decide_eq_true_eq]
    exact List.le_total _ _) ns
  exact this.imp fun h => by simpa using h
theorem srtS_uniq {ns ms : List Str} (p : ms.Perm ns) (o : ms.Pairwise fun a b => a.cps.toList ≤ b.cps.toList) : ms = srtS ns := by
  have h1 : (srtS ns).Perm ns := List.mergeSort_perm ns _
  exact List.Perm.eq_of_pairwise (le := fun a b : Str => a.cps.toList ≤ b.cps.toList) (fun a b _ _ h1 h2 => str_of_cps (List.le_antisymm h1 h2)) o (srtS_sorted ns) (p.trans h1.symm)
def rSortA (K : PySem.W.Frag) : List V → Hp → VK → Prop := fun vs H Qv => rSortedI K vs H Qv ∨ rSortedS K vs H Qv
theorem cr_sortA {X : Cx} : CallR X (.builtin "sorted") (rSortA X.K) := cr_sortedI.or cr_sortedS
theorem Rps.of_strs {K : PySem.W.Frag} {T : Tb} {ω : Wd} (ns : List Str) : Rps K T ω (ns.map D.str) (ns.map V.str) := by
  induction ns with
  | nil => exact Rps.nil
  | cons i ns ih => exact Rps.cons (Rp.mstr _) ih
theorem ok_sortedI {K : PySem.W.Frag} {T : Tx} : OkN K T (rSortA K) oSortedI := by
  intro ω S H xs us Qv rl r q
  unfold oSortedI at q
  split at q
  · obtain ⟨v, rfl, r1⟩ := r.one
    split at q
    · rename_i ds hds
      obtain ⟨p, vs, rfl, h1, r2⟩ := Rp.itemsL rl r1 hds
      split at q
      · rename_i e he
        unfold sortD at he
        split at he
        · rename_i ns hns
          cases he
          have e := r2.ints hns
          subst e
          refine .inl ⟨_, _, rfl, SqL.of h1, fun ns' p hp ho hn => ?_⟩
          rw [srt_uniq hp ho]
          exact q.newLst rl (Rps.of_ints _) p hn
        · split at he
          · rename_i ss hss
            split at he
            · rename_i h64
              cases he
              have e := r2.strs hss
              subst e
              refine .inr ⟨_, _, rfl, SqL.of h1, h64, fun ys p hp ho hn => ?_⟩
              rw [srtS_uniq hp (sortedS_ok _ ho)]
              exact q.newLst rl (Rps.of_strs _) p hn
            · cases he
          · cases he
      · exact q.elim
    · exact q.elim
  · exact q.elim
end Q
set_option maxHeartbeats 1000000
namespace Q
open PySem PySem.Spec PyProof.Rows L2
section
variable {K : PySem.W.Frag} {T : Tb} {ω : Wd}
theorem flat_rel {d : D} {v : V} (h : flatD d = true) (r : Rp K T ω d v) : flatV v = true ∧ ∀ (e : D) (w : V), flatD e = true → Rp K T ω e w → eqV v w = eqF d e := by
  cases d <;> try (cases h; done)
  all_goals
    unfold Rp at r
    subst r
    refine ⟨rfl, fun e w he re => ?_⟩
    cases e <;> try (cases he; done)
    all_goals
      unfold Rp at re
      subst re
      rfl
theorem flats_rel : ∀ {ds : List D} {vs : List V}, ds.all flatD = true → Rps K T ω ds vs → vs.all flatV = true ∧ ∀ (e : D) (w : V), flatD e = true → Rp K T ω e w → (vs.any fun y => eqV y w) = ds.any fun z => eqF z e
  | [], vs, _, r => by
    unfold Rps at r
    subst r
    exact ⟨rfl, fun _ _ _ _ => rfl⟩
  | d :: ds, vs, h, r => by
    unfold Rps at r
    obtain ⟨v, ws, rfl, r1, r2⟩ := r
    simp only [List.all_cons, Bool.and_eq_true] at h
    obtain ⟨h1, h2⟩ := h
    obtain ⟨a1, a2⟩ := flat_rel h1 r1
    obtain ⟨b1, b2⟩ := flats_rel h2 r2
    exact ⟨by simp only [List.all_cons, Bool.and_eq_true]; exact ⟨a1, b1⟩, fun e w he re => by simp only [List.any_cons]; rw [a2 e w he re, b2 e w he re]⟩
theorem signOf_eq {d : D} {c : Nat} (h : signOf d = some c) : d = .str ⟨#[c]⟩ := by
  unfold signOf at h
  split at h
  · rename_i z
    split at h
    · rename_i c' e
      cases h
      congr 1
      cases z with
      | mk a =>
        have : a = #[c] := by
          apply Array.toList_inj.mp
          exact e
        rw [this]
    · cases h
  · cases h
end
section
variable {X : Cx} {T : Tx} {W : WX} {a b c e : Expr} {es : List Expr} {ta tb tc : Q.TE} {ts : List Q.TE} {pos : Pos}
def rInA (K : PySem.W.Frag) (g : Bool → Bool) : R2 := fun x y H Qv => (∃ (c : Nat) (z : Str), x = .str ⟨#[c]⟩ ∧ y = .str z ∧ Qv (.bl (g (decide (c ∈ z.cps.toList)))) H) ∨ ∃ p xs, y = .ref p ∧ (SqL K H p xs ∨ SqT K H p xs) ∧ flatV x = true ∧ xs.all flatV = true ∧ Qv (.bl (g (inV x xs))) H
theorem or_in : OpR X (compareOp .In) (rInA X.K id) := op_in_sign.or op_in_seq
theorem or_nin : OpR X (compareOp .NotIn) (rInA X.K Bool.not) := op_notIn_sign.or op_notIn_seq
theorem inD_ok {K : PySem.W.Frag} {g : Bool → Bool} {ω : Wd} {S : Store} {H : Hp} {x y : D} {u v : V} {k : Bool} {Qv : VK} (rl : Rl K T.toTb ω S H) (rx : Rp K T.toTb ω x u) (ry : Rp K T.toTb ω y v) (h : inD S x y = some k) (q : Qv (.bl (g k)) H) : rInA K g u v H Qv := by
  unfold inD at h
  split at h
  · split at h
    · rename_i z c hc
      cases h
      rw [signOf_eq hc] at rx
      rw [rx.str, ry.str]
      exact .inl ⟨_, _, rfl, rfl, q⟩
    · cases h
  · split at h
    · rename_i xs hx
      split at h
      · rename_i hf
        rw [Bool.and_eq_true] at hf
        cases h
        obtain ⟨p, vs, rfl, h1, r1⟩ := Rp.itemsLT rl ry hx
        obtain ⟨f1, f2⟩ := flats_rel hf.2 r1
        refine .inr ⟨p, vs, rfl, h1, (flat_rel hf.1 rx).1, f1, ?_⟩
        have e : inV u vs = xs.any fun z => eqF z x := f2 x u hf.1 rx
        rw [e]
        exact q
      · cases h
    · cases h
theorem ok_in {K : PySem.W.Frag} : Ok2 K T (rInA K id) oIn := by
  intro ω S H x y u v Qv rl rx ry q
  unfold oIn at q
  split at q
  · exact inD_ok rl rx ry ‹_› (q.now rl (Rp.mbl _))
  · exact q.elim
theorem ok_nin {K : PySem.W.Frag} : Ok2 K T (rInA K Bool.not) oNin := by
  intro ω S H x y u v Qv rl rx ry q
  unfold oNin at q
  split at q
  · exact inD_ok rl rx ry ‹_› (q.now rl (Rp.mbl _))
  · exact q.elim
theorem ge_isB {k : Bool} {j pos'} (ha : GE X T W a ta) : GE X T W (.Compare a [.Is] [.Constant (.bool k) j pos'] pos) (e1 (oIsB k) ta) := PE.imp (pe_cmpR op_isBl ha pe_bl rfl) fun σ H Qv ⟨s, S, ω, rl, rs, q⟩ => by
  refine ⟨s, S, ω, rl, rs, (EPg.bind q).mono ?_⟩
  rintro v H1 ⟨ω1, S1, d, e1, rl1, r1, q1⟩
  cases d <;> try exact q1.elim
  exact ⟨_, _, r1.bl, rfl, (PQ.of q1).now rl1 (Rp.mbl _)⟩
theorem gt_isB {k : Bool} {j pos'} (ha : GE X T W a ta) : GT X T W (.Compare a [.Is] [.Constant (.bool k) j pos'] pos) (e1 (oIsB k) ta) := PT.imp (pt_cmpR op_isBl ha pe_bl rfl) (by
  refine tTest_ok (X := X) (T := T) (W := W) fun σ H Qv ⟨s, S, ω, rl, rs, q⟩ => ?_
  refine ⟨s, S, ω, rl, rs, (EPg.bind q).mono ?_⟩
  rintro v H1 ⟨ω1, S1, d, e1, rl1, r1, q1⟩
  cases d <;> try exact q1.elim
  exact ⟨_, _, r1.bl, rfl, (PQ.of q1).now rl1 (Rp.mbl _)⟩)
theorem maxI_mem : ∀ {ns : List Int}, 0 < ns.length → maxI ns ∈ ns ∧ ∀ y ∈ ns, y ≤ maxI ns
  | [], h => by simp at h
  | [x], _ => by simp [maxI]
  | x :: y :: r, _ => by
    obtain ⟨h1, h2⟩ := maxI_mem (ns := y :: r) (by simp)
    have e : maxI (x :: y :: r) = max x (maxI (y :: r)) := rfl
    rw [e]
    refine ⟨?_, fun z hz => ?_⟩
    · by_cases h : x ≤ maxI (y :: r)
      · rw [Int.max_eq_right h]; exact List.mem_cons_of_mem _ h1
      · rw [Int.max_eq_left (by omega)]; exact List.mem_cons_self
    · rcases List.mem_cons.mp hz with rfl | hz
      · omega
      · have := h2 z hz
        omega
theorem minI_mem : ∀ {ns : List Int}, 0 < ns.length → minI ns ∈ ns ∧ ∀ y ∈ ns, minI ns ≤ y
  | [], h => by simp at h
  | [x], _ => by simp [minI]
  | x :: y :: r, _ => by
    obtain ⟨h1, h2⟩ := minI_mem (ns := y :: r) (by simp)
    have e : minI (x :: y :: r) = min x (minI (y :: r)) := rfl
    rw [e]
    refine ⟨?_, fun z hz => ?_⟩
    · by_cases h : x ≤ minI (y :: r)
      · rw [Int.min_eq_left h]; exact List.mem_cons_self
      · rw [Int.min_eq_right (by omega)]; exact List.mem_cons_of_mem _ h1
    · rcases List.mem_cons.mp hz with rfl | hz
      · omega
      · have := h2 z hz
        omega
theorem intsL_ok {K : PySem.W.Frag} {ω : Wd} {S : Store} {H : Hp} {d : D} {ns : List Int} {v : V} (rl : Rl K T.toTb ω S H) (r : Rp K T.toTb ω d v) (h : intsL S d = some ns) : ∃ a, v = .ref a ∧ SqL K H a (ns.map V.int) := by
  unfold intsL at h
  split at h
  · obtain ⟨a, vs, rfl, h1, r1⟩ := Rp.itemsL rl r ‹_›
    have e := r1.ints h
    subst e
    exact ⟨a, rfl, SqL.of h1⟩
  · cases h
theorem ok_maxL {K : PySem.W.Frag} : OkN K T (rMax K) oMaxL := by
  intro ω S H xs us Qv rl r q
  unfold oMaxL at q
  split at q
  · obtain ⟨v, rfl, r1⟩ := r.one
    split at q
    · rename_i ns hn
      split at q
      · rename_i hl
        obtain ⟨a, rfl, hs⟩ := intsL_ok rl r1 hn
        refine ⟨a, ns, rfl, hs, hl, fun m hm hy => ?_⟩
        obtain ⟨h1, h2⟩ := maxI_mem hl
        have e : m = maxI ns := Int.le_antisymm (h2 m hm) (hy _ h1)
        rw [e]
        exact q.now rl (Rp.mint _)
      · exact q.elim
    · exact q.elim
  · exact q.elim
theorem ok_minL {K : PySem.W.Frag} : OkN K T (rMin K) oMinL := by
  intro ω S H xs us Qv rl r q
  unfold oMinL at q
  split at q
  · obtain ⟨v, rfl, r1⟩ := r.one
    split at q
    · rename_i ns hn
      split at q
      · rename_i hl
        obtain ⟨a, rfl, hs⟩ := intsL_ok rl r1 hn
        refine ⟨a, ns, rfl, hs, hl, fun m hm hy => ?_⟩
        obtain ⟨h1, h2⟩ := minI_mem hl
        have e : m = minI ns := Int.le_antisymm (hy _ h1) (h2 m hm)
        rw [e]
        exact q.now rl (Rp.mint _)
      · exact q.elim
    · exact q.elim
  · exact q.elim
theorem ok_sum {K : PySem.W.Frag} : OkN K T (rSum K) oSum := by
  intro ω S H xs us Qv rl r q
  unfold oSum at q
  split at q
  · obtain ⟨v, rfl, r1⟩ := r.one
    split at q
    · obtain ⟨a, rfl, hs⟩ := intsL_ok rl r1 ‹_›
      exact ⟨a, _, rfl, hs, q.now rl (Rp.mint _)⟩
    · exact q.elim
  · exact q.elim
theorem ok_any {K : PySem.W.Frag} : OkN K T (rAny K) oAny := by
  intro ω S H xs us Qv rl r q
  unfold oAny at q
  split at q
  · obtain ⟨v, rfl, r1⟩ := r.one
    split at q
    · obtain ⟨p, vs, rfl, h1, r2⟩ := Rp.lst rl r1
      have e := r2.bls ‹_›
      subst e
      exact ⟨_, _, rfl, SqL.of h1, q.now rl (Rp.mbl _)⟩
    · exact q.elim
  · exact q.elim
theorem ok_count {K : PySem.W.Frag} : OkN K T (fun xs H Qv => ∃ x ys, xs = x :: ys ∧ (fun x xs H Qv => ∃ a b, x = .str a ∧ xs = [.str b] ∧ Qv (.int (Txt.count a b)) H) x ys H Qv) oCount := by
  intro ω S H xs us Qv rl r q
  unfold oCount at q
  split at q
  · obtain ⟨v, w, rfl, r1, r2⟩ := r.two
    exact ⟨_, _, rfl, _, _, r1.str, by rw [r2.str], q.now rl (Rp.mint _)⟩
  · exact q.elim
theorem ge_count {apos : Pos} (ho : GE X T W a ta) (he : GE X T W b tb) (hs : starEach [b] X.env = [(false, eval b X.env)] := by rfl) (hbase : attributeBase a "count" X.env (eval a X.env) = eval a X.env := by rfl) (hline : (apos.endLine == pos.line) = true := by rfl) :
    GE X T W (.Call (.Attribute a "count" apos) [b] [] pos) (eM isStrD oCount ta [tb]) := ge_mstr F.slot_str_count F.type_str_count mt_count ok_count ho he hs hbase hline
def rStrA : List V → Hp → VK → Prop := fun xs H Qv => (∃ i, xs = [.int i] ∧ i.natAbs.log2 < 1920 ∧ Qv (.str (toString i)) H) ∨ (∃ a, xs = [.str a] ∧ Qv (.str a) H) ∨ xs = [.non] ∧ Qv (.str "None") H
theorem call_str_non : CallR X (.type "str") (fun xs H Q => xs = [.non] ∧ Q (.str "None") H) := by
  intro pins s σ H xs us Q I r h
  obtain ⟨rfl, q⟩ := h
  obtain ⟨u, rfl, ru⟩ : ∃ u, us = [u] ∧ RelV .non u := by
    cases r with
    | cons a b =>
      cases b
      exact ⟨_, rfl, a⟩
  cases ru
  exact PySem.P.str_of_none ⟨.str _, H, I.tok _, ⟨_, rfl⟩, q⟩
theorem cr_strOf : CallR X (.type "str") rStrA := call_str_int.or (SkE.call_str_str.or call_str_non)
theorem ok_strOf {K : PySem.W.Frag} : OkN K T rStrA oStrOf := by
  intro ω S H xs us Qv rl r q
  unfold oStrOf at q
  split at q
  · obtain ⟨v, rfl, r1⟩ := r.one
    rw [r1.non]
    exact .inr (.inr ⟨rfl, q.now rl (Rp.mstr _)⟩)
  · obtain ⟨v, rfl, r1⟩ := r.one
    rw [r1.int]
    split at q
    · exact .inl ⟨_, rfl, ‹_›, q.now rl (Rp.mstr _)⟩
    · exact q.elim
  · obtain ⟨v, rfl, r1⟩ := r.one
    rw [r1.str]
    exact .inr (.inl ⟨_, rfl, q.now rl (Rp.mstr _)⟩)
  · exact q.elim
theorem ok_extend {K : PySem.W.Frag} : OkN K T (fun xs H Qv => ∃ x ys, xs = x :: ys ∧ rExtend x ys H Qv) oExtend := by
  intro ω S H xs us Qv rl r q
  unfold oExtend at q
  split at q
  · obtain ⟨v, w, rfl, r1, r2⟩ := r.two
    split at q
    · rename_i k es _ ds g
      split at q
      · rename_i hc
        rw [Bool.and_eq_true] at hc
        obtain ⟨p, vs, rfl, rfl, h1, r3⟩ := Rp.ptr rl r1 g
        obtain ⟨p2, ws, rfl, h2, r4⟩ := Rp.lst rl r2
        have hf := (rl.obj k ds g).2.1
        have z := rl.put (es := ds ++ es) g (by rw [flats_app, hf]; simp [hc.2]) (r3.append r4)
        exact ⟨_, _, rfl, _, _, _, _, rfl, rfl, h1, h2, by rw [← r3.length, ← r4.length]; exact of_decide_eq_true hc.1, q ω _ _ z.1 z.2 Rp.mnon⟩
      · exact q.elim
    · exact q.elim
  · exact q.elim
def tRevS (te : L2.TE) : L2.TE := fun σ H Qv => te σ H fun x H1 => ∃ z, x = .str z ∧ z.length ≤ sizeLine ∧ Qv (.str ⟨z.cps.toList.reverse.toArray⟩) H1
theorem rev_eq (z : Str) (u : Tok) : (⟨z.cps.toList.reverse.toArray⟩ : Str) = Txt.sliceBy z none none (-1, u) := by
  refine str_ext_getD ?_ fun i hi => ?_
  · rw [step_rev_len]; simp [Str.length]
  · have hi' : i < z.length := by simpa [Str.length] using hi
    rw [step_rev_getD z u i hi']
    have h2 : i < z.cps.size := hi'
    have h3 : z.length - 1 - i < z.cps.size := by unfold Str.length at *; omega
    simp only [Array.getD, List.size_toArray, List.length_reverse, Array.length_toList, h2, h3, dite_true]
    simp [Str.length]
theorem pe_revS {e : Expr} {te : L2.TE} {k : Nat} {p1 p2 p3 pos : Pos} (he : PE X e te) : PE X (.Subscript e (.Slice none none (some (.UnaryOp .USub (.Constant (.int 1) k p1) p2)) p3) pos) (tRevS te) := by
  refine ⟨fun pins s σ H Q I h => ?_⟩
  refine Subscript_ (thn (he.run pins s σ H _ I h) fun v s1 ⟨x, H1, I1, r1, q1⟩ => ?_)
  obtain ⟨z, ex, hz, q⟩ := q1
  subst ex
  obtain ⟨t, rfl⟩ := r1
  have hst : PO X (some (.UnaryOp .USub (.Constant (.int 1) k p1) p2)) (tPart (tUn (rU fun i => .int (-i)) (tC (.int 1)))) := po_some (pe_un un_neg pe_int)
  refine wpAny_Slice (thn (po_none.run pins s1 σ H1 (fun o H2 => o = none ∧ H2 = H1) I1 ⟨rfl, rfl⟩) fun vl s2 ⟨l, H2, I2, pl, el, e2⟩ => ?_)
  subst el e2
  refine thn (po_none.run pins s2 σ H2 (fun o H3 => o = none ∧ H3 = H2) I2 ⟨rfl, rfl⟩) fun vu s3 ⟨u, H3, I3, pu, eu, e3⟩ => ?_
  subst eu e3
  refine thn (hst.run pins s3 σ H3 (fun o H4 => o = some (-1) ∧ H4 = H3) I3 ⟨1, rfl, -1, rfl, rfl, rfl⟩) fun vs s4 ⟨o, H4, I4, ps, eo, e4⟩ => ?_
  subst eo e4
  have I5 : Inv X pins σ H4 { s4 with heap := s4.heap.push { cls := .type "slice", data := .fields #[vl, vu, vs] } } := I4.kept (t' := s4.toks) fun b ob q => Heap.get?_push_of_some _ q
  obtain ⟨l', hl', el'⟩ := IsPart.raw pl
  obtain ⟨u', hu', eu'⟩ := IsPart.raw pu
  obtain ⟨st', hs', es'⟩ := IsPart.raw ps
  show wpAny (model X.prog X.w) X.A (subscriptTail e (.Slice none none (some (.UnaryOp .USub (.Constant (.int 1) k p1) p2)) p3) (.str z t) (.ref s4.heap.objs.size)) (EP X pins σ Q) X.xe { s4 with heap := s4.heap.push { cls := .type "slice", data := .fields #[vl, vu, vs] } }
  refine tail_any (ops := [.str z t, .ref s4.heap.objs.size]) (typeIs_str _ _ _) (PySem.F.slot_str_getitem.lookup) ?_ (by with_unfolding_all rfl)
  obtain ⟨uu, rfl⟩ : ∃ uu, st' = some (-1, uu) := by
    cases st' with
    | none => cases es'
    | some p => obtain ⟨i, uu⟩ := p; cases es'; exact ⟨uu, rfl⟩
  have el0 : l' = none := by cases l' with
    | none => rfl
    | some p => cases el'
  have eu0 : u' = none := by cases u' with
    | none => rfl
    | some p => cases eu'
  subst el0 eu0 hl' hu' hs'
  refine wpAny_getItem_str_slice (l := none) (u := none) (st := some (-1, uu)) (Heap.IsSliceOf.new _ _ _ _) rfl ?_
  have hl : (Txt.sliceBy z none none (-1, uu)).length ≤ sizeLine := by rw [step_rev_len]; exact hz
  have q2 : Q (.str (Txt.sliceBy z none none (-1, uu))) H4 := by rw [← rev_eq]; exact q
  exact ⟨hl, .str _, H4, I5.tok _, ⟨_, rfl⟩, q2⟩
theorem ge_rev {k : Nat} {p1 p2 p3 : Pos} (ha : GE X T W a ta) : GE X T W (.Subscript a (.Slice none none (some (.UnaryOp .USub (.Constant (.int 1) k p1) p2)) p3) pos) (e1 oRev ta) := by
  refine ⟨fun pins s σ H Qv I h => ?_⟩
  obtain ⟨s0, S, ω, rl, rs, q⟩ := h
  have two : tRevS (tEr X.K T W ta) σ H Qv ∨ tRevL X.K (tEr X.K T W ta) σ H Qv := by
    cases e0 : ta s0 S with
    | err => simp only [e1, e0, Res.bind] at q; exact q.elim
    | ex x S1 =>
      simp only [e1, e0, Res.bind] at q
      exact .inl ⟨s0, S, ω, rl, rs, by rw [e0]; exact q⟩
    | ok d S1 =>
      simp only [e1, e0, Res.bind] at q
      cases d with
      | str z =>
        refine .inl ⟨s0, S, ω, rl, rs, ?_⟩
        rw [e0]
        intro ω' H' v ex rl' r
        have q1 := PQ.of (EPg.shift ex q)
        unfold oRev at q1
        simp only at q1
        split at q1
        · exact ⟨z, r.str, ‹_›, q1.now rl' (Rp.mstr _)⟩
        · exact q1.elim
      | _ =>
        refine .inr ⟨s0, S, ω, rl, rs, ?_⟩
        rw [e0]
        intro ω' H' v ex rl' r
        have q1 := PQ.of (EPg.shift ex q)
        unfold oRev at q1
        simp only at q1
        split at q1
        · obtain ⟨p, vs, rfl, h1, r1⟩ := Rp.itemsL rl' r ‹_›
          refine ⟨p, vs, rfl, SqL.of h1, q1.newLst rl' ?_⟩
          refine Rps.of_get (by simp [r1.length]) fun i d v hd hv => ?_
          have hi : i < vs.length := by
            have := (List.getElem?_eq_some_iff.mp hv).1
            simpa using this
          rw [List.getElem?_reverse (by rw [r1.length]; exact hi)] at hd
          rw [List.getElem?_reverse hi] at hv
          obtain ⟨w, hw, rw'⟩ := r1.get hd
          rw [r1.length, hv] at hw
          cases hw
          exact rw'
        · exact q1.elim
  rcases two with z | z
  · exact (pe_revS ha).run pins s σ H Qv I z
  · exact (pe_revL ha).run pins s σ H Qv I z
def GDs (X : Cx) (T : Tx) (W : WX) (pos : Pos) (ks : List (Option Expr)) (vs : List Expr) (ts : List Q.TE) : Prop := ∃ trs, PPs X pos ks vs trs ∧ ks.all (·.isSome) = true ∧ ks.length = vs.length ∧ ∀ σ H R, (∃ s S ω, Rl X.K T.toTb ω S H ∧ Rs X.K T.toTb ω s σ ∧
  EPg X.K T (fun ω' ds (ps : List (V × V)) => Rps X.K T.toTb ω' ds (ps.flatMap fun p => [p.1, p.2]) ∧ ps.length = ks.length) W σ ω S H (eArgs ts s S) R) → tPairs trs σ H R
theorem gd_nil : GDs X T W pos [] [] [] := ⟨[], pps_nil, rfl, rfl, fun σ H R ⟨s, S, ω, rl, rs, q⟩ => q.now rl ⟨Rps.nil, rfl⟩⟩
theorem gd_cons {k v : Expr} {ks : List (Option Expr)} {vs : List Expr} (hk : GE X T W k ta) (hv : GE X T W v tb) (hr : GDs X T W pos ks vs ts) : GDs X T W pos (some k :: ks) (v :: vs) (ta :: tb :: ts) := by
  obtain ⟨trs, h1, h2, h3, h4⟩ := hr
  refine ⟨_, pps_cons hk hv h1, by simpa using h2, by simp [h3], fun σ H R ⟨s, S, ω, rl, rs, q⟩ => ?_⟩
  refine ⟨s, S, ω, rl, rs, (EPg.bind q).mono ?_⟩
  rintro x H1 ⟨ω1, S1, d, e1, rl1, r1, q1⟩
  refine ⟨s, S1, ω1, rl1, rs.ext e1, ?_⟩
  have q2 : EPg X.K T (fun ω' ds (ps : List (V × V)) => Rps X.K T.toTb ω' ds (ps.flatMap fun p => [p.1, p.2]) ∧ ps.length = ks.length + 1) W σ ω1 S1 H1 ((tb s S1).bind fun x2 S2 => (eArgs ts s S2).bind fun xs S3 => .ok (d :: x2 :: xs) S3) R := by
    have e : ((eArgs (tb :: ts) s S1).bind fun xs S2 => (Res.ok (d :: xs) S2 : Res (List D))) = (tb s S1).bind fun x2 S2 => (eArgs ts s S2).bind fun xs S3 => .ok (d :: x2 :: xs) S3 := by
      show (((tb s S1).bind fun x2 S2 => (eArgs ts s S2).bind fun xs S3 => (Res.ok (x2 :: xs) S3 : Res (List D))).bind fun xs S2 => (Res.ok (d :: xs) S2 : Res (List D))) = _
      cases tb s S1 with
      | ok x2 S2 => cases h5 : eArgs ts s S2 with
        | ok xs S3 => simp only [Res.bind, h5]
        | ex y S3 => simp only [Res.bind, h5]
        | err => simp only [Res.bind, h5]
      | ex y S2 => rfl
      | err => rfl
    rw [← e]
    exact q1
  refine (EPg.bind (R := Rp X.K T.toTb) q2).mono ?_
  rintro y H2 ⟨ω2, S2, d2, e2, rl2, r2, q3⟩
  refine h4 σ H2 _ ⟨s, S2, ω2, rl2, (rs.ext e1).ext e2, ?_⟩
  refine (EPg.bind q3).mono ?_
  rintro ps H3 ⟨ω3, S3, ds, e3, rl3, ⟨r3, r4⟩, q4⟩
  exact q4.now rl3 ⟨Rps.cons ((r1.ext e2).ext e3) (Rps.cons (r2.ext e3) r3), by simp [r4]⟩
theorem keyD_ok {K : PySem.W.Frag} {ω : Wd} {d : D} {k : Key} {v : V} (h : keyD d = some k) (r : Rp K T.toTb ω d v) : v = kV k := by
  cases d <;> try (cases h; done)
  · cases h; exact r.int
  · cases h; exact r.str
theorem pairsD_ok {K : PySem.W.Frag} {ω : Wd} : ∀ {ps : List (V × V)} {ds : List D} {kvs : List (Key × D)}, pairsD ds = some kvs → Rps K T.toTb ω ds (ps.flatMap fun p => [p.1, p.2]) → ∃ ws : List (Key × V), ps = ws.map (fun kv => (kV kv.1, kv.2)) ∧ Rpk K T.toTb ω kvs ws ∧ kvs.map (·.1) = ws.map (·.1)
  | [], ds, kvs, h, r => by
    cases ds with
    | nil => cases h; exact ⟨[], rfl, by unfold Rpk; rfl, rfl⟩
    | cons d ds => have := r.length; simp at this
  | (x, y) :: ps, ds, kvs, h, r => by
    match ds, h, r with
    | [], h, r => have := r.length; simp at this
    | [d], h, r => cases h
    | d :: e :: ds, h, r =>
      have r' : Rps K T.toTb ω (d :: e :: ds) (x :: y :: ps.flatMap fun p => [p.1, p.2]) := r
      unfold Rps at r'
      obtain ⟨v, ws, e1, r1, r'⟩ := r'
      cases e1
      unfold Rps at r'
      obtain ⟨v, ws, e1, r2, r'⟩ := r'
      cases e1
      unfold pairsD at h
      split at h
      · rename_i k' r0 hk hr
        cases h
        obtain ⟨ws, e1, e2, e3⟩ := pairsD_ok hr r'
        have ek := keyD_ok hk r1
        refine ⟨(k', y) :: ws, by simp [e1, ek], ?_, by simp [e3]⟩
        unfold Rpk
        exact ⟨y, ws, rfl, r2, e2⟩
      · cases h
theorem merge_nodup : ∀ (ws acc : List (Key × V)), nodupK (ws.map (·.1)) = true → (∀ p ∈ acc, ∀ q ∈ ws, p.1 ≠ q.1) → mergeK acc ws = acc ++ ws
  | [], acc, _, _ => by simp [mergeK]
  | p :: ws, acc, h, hd => by
    have h' : ((!((ws.map (·.1)).any fun j => decide (j = p.1))) && nodupK (ws.map (·.1))) = true := h
    rw [Bool.and_eq_true] at h'
    have e : putK acc p.1 p.2 = acc ++ [p] := by
      unfold putK
      rw [if_neg]
      simp only [Bool.not_eq_true, List.any_eq_false, decide_eq_true_eq]
      intro q hq
      exact hd q hq p List.mem_cons_self
    show mergeK (putK acc p.1 p.2) ws = _
    rw [e, merge_nodup ws (acc ++ [p]) h'.2 ?_]
    · simp
    · intro a ha b hb
      rcases List.mem_append.mp ha with z | z
      · exact hd a z b (List.mem_cons_of_mem _ hb)
      · rw [List.mem_singleton.mp z]
        intro e3
        have := h'.1
        simp only [Bool.not_eq_true', List.any_eq_false, List.mem_map, decide_eq_true_eq, forall_exists_index, and_imp] at this
        exact this b.1 b hb rfl e3.symm
theorem Own.not_updP {K : PySem.W.Frag} {ω : Wd} {S : Store} {H : Hp} {A : Addr} {o : HO} (rl : Rl K T.toTb ω S H) (n : ¬ Own ω S A) (hA : H A = none ∨ ∃ u, H A = some u ∧ Plain u) : Rl K T.toTb ω S (upd H A o) := by
  refine ⟨⟨fun b q h => ?_, rl.len, fun k ds h => ?_, rl.inj, rl.lenO, fun k v h => ?_, rl.injO, rl.nt, ⟨tabs_putP rl.tab.1 hA, lamcs_put rl.tab.2 hA⟩⟩, fun p hp => ⟨(rl.pinned p hp).1, ?_⟩⟩
  · rw [upd_ne fun z => n (.inl ⟨q, by rw [← z]; exact h⟩)]; exact rl.sub _ _ h
  · obtain ⟨a1, a2, vs, a3, a4⟩ := rl.obj k ds h
    exact ⟨a1, a2, vs, by rw [upd_ne fun z => n (.inr (.inl ⟨k, ds, h, z⟩))]; exact a3, a4⟩
  · obtain ⟨a1, a2, o2, a3, a4⟩ := rl.objO k v h
    refine ⟨a1, a2, o2, ?_, a4⟩
    have hk : k < ω.m := by rw [← rl.lenO]; exact (List.getElem?_eq_some_iff.mp h).1
    rw [upd_ne fun z => n (.inr (.inr ⟨k, hk, z⟩))]; exact a3
  · have h2 := (rl.pinned p hp).2
    rw [upd_ne fun z => by
      rw [z] at h2
      rcases hA with h | ⟨u, h, pu⟩
      · rw [h] at h2; cases h2
      · rw [h] at h2
        unfold LamX.CodeO at h2
        cases h2
        exact pu]
    exact h2
theorem ge_dct {ks : List (Option Expr)} {vs : List Expr} (h : GDs X T W pos ks vs ts) (h0 : ks ≠ [] := by intro z; cases z) (h15 : ks.length ≤ 15 := by decide) : GE X T W (.Dict ks vs pos) (eDct ts) := by
  obtain ⟨trs, h1, h2, h3, h4⟩ := h
  refine PE.imp (pe_disp h1 h2 h3 h0 h15) fun σ H Qv ⟨s, S, ω, rl, rs, q⟩ => ?_
  intro p hp
  have nA := own_of rl hp
  have rl0 := Own.not_upd (T := T) (o := .dK []) rl nA (.inl hp)
  refine h4 σ _ _ ⟨s, S, ω, rl0, rs, ?_⟩
  unfold eDct at q
  cases e0 : eArgs ts s S with
  | err => rw [e0] at q; exact q
  | ex x S1 =>
    rw [e0] at q
    exact fun ω' H' cls dd ex rl' er => q ω' H' cls dd (by
      refine ⟨ex.fix, ex.al, ex.len, ex.ao, ex.lenO, ex.live, fun b o hb t n => ex.frame b o (by rw [upd_ne (ne_of_none hb hp)]; exact hb) t n⟩) rl' er
  | ok ds S1 =>
    rw [e0] at q
    simp only [Res.bind] at q
    intro ω1 H1 ps ex rl1 ⟨r1, r2⟩
    have ex0 : Ext ω S H ω1 S1 H1 := ⟨ex.fix, ex.al, ex.len, ex.ao, ex.lenO, ex.live, fun b o hb t n => ex.frame b o (by rw [upd_ne (ne_of_none hb hp)]; exact hb) t n⟩
    obtain ⟨x1, x2⟩ := ex.frame p (.dK []) upd_same (fun ps z => by cases z) nA
    split at q
    · rename_i kvs hk
      split at q
      · rename_i hn
        obtain ⟨ws, e1, e2, e3⟩ := pairsD_ok hk r1
        refine ⟨x1, ws, e1, ?_, ?_⟩
        · have : ps.length = ws.length := by rw [e1, List.length_map]
          omega
        · have em : mergeK [] ws = ws := by
            rw [merge_nodup ws [] (by rw [← e3]; exact hn) (by simp)]
            rfl
          rw [em]
          have rl2 := Own.not_updP (T := T) (o := .dK ws) rl1 x2 (.inr ⟨_, x1, trivial⟩)
          have ex2 : Ext ω S H ω1 S1 (upd H1 p (.dK ws)) := ex0.upd_out hp
          obtain ⟨ω3, x1', rl3, hF, lt⟩ := Rl.adopt rl2 ex2 hp upd_same x2
          refine q ω3 _ _ x1' rl3 ?_
          unfold Rp
          refine ⟨p, ws, rfl, hF, ?_⟩
          exact Rpk.mono lt.fix lt.al lt.len lt.ao lt.lenO _ _ e2
      · exact q.elim
    · exact q.elim
theorem ge_dct0 : GE X T W (.Dict [] [] pos) (eDct []) := PE.imp pe_dnewK fun σ H Qv ⟨s, S, ω, rl, rs, q⟩ => by
  intro p hp
  obtain ⟨ω2, e2, rl2, hF⟩ := Rl.laid rl hp (.dK [])
  have q' : EPg X.K T (Rp X.K T.toTb) W σ ω S H (.ok (.dct []) S) Qv := q
  exact q' ω2 _ _ e2 rl2 (by unfold Rp; exact ⟨p, [], rfl, hF, by unfold Rpk; rfl⟩)
theorem PQ.newM {K : PySem.W.Frag} {ω : Wd} {S : Store} {H : Hp} {ds : List D} {vs : List V} {Qv : VK} (h : PQ K T ω S H (if flats ds then some (.ptr S.L.length, S.new ds) else none) Qv) (rl : Rl K T.toTb ω S H) (r : Rps K T.toTb ω ds vs) : ∀ p, H p = none → Qv (.ref p) (upd H p (.lst vs)) := fun p hp => by
  split at h
  · obtain ⟨ω2, e2, rl2, hp2⟩ := Rl.newL rl hp ‹_› r
    exact h ω2 _ _ e2 rl2 hp2
  · exact h.elim
theorem ok_addM {K : PySem.W.Frag} : Ok2 K T (rAddA K) oAddM := by
  intro ω S H x y u v Qv rl rx ry q
  unfold oAddM at q
  split at q
  · rename_i zs S1 e
    unfold oAdd at e
    split at e <;> try (cases e; done)
    · split at e <;> cases e
    · split at e
      · cases e
        obtain ⟨p1, vs, rfl, h1, r1⟩ := Rp.lst rl rx
        obtain ⟨p2, ws, rfl, h2, r2⟩ := Rp.lst rl ry
        exact .inr (.inr (.inl ⟨_, _, _, _, rfl, rfl, h1, h2, by rw [← r1.length, ← r2.length]; assumption, q.newM rl (r1.append r2)⟩))
      · cases e
    · split at e
      · split at e
        · cases e
          obtain ⟨p1, vs, rfl, _, h1, r1⟩ := Rp.ptr rl rx ‹_›
          obtain ⟨p2, ws, rfl, h2, r2⟩ := Rp.lst rl ry
          exact .inr (.inr (.inl ⟨_, _, _, _, rfl, rfl, h1, h2, by rw [← r1.length, ← r2.length]; assumption, q.newM rl (r1.append r2)⟩))
        · cases e
      · cases e
    · split at e <;> cases e
  · exact q.elim
theorem rps_rng {K : PySem.W.Frag} {T : Tb} {ω : Wd} (a : Int) : ∀ (l : List Nat), Rps K T ω (l.map fun (i : Nat) => D.int (a + i)) (l.map fun (i : Nat) => V.int (a + i))
  | [] => by unfold Rps; rfl
  | x :: l => by
    have := rps_rng (K := K) (T := T) (ω := ω) a l
    rw [List.map_cons, List.map_cons]
    unfold Rps
    exact ⟨_, _, rfl, Rp.mint _, this⟩
theorem ge_listRg {p p2 pos2 : Pos} (hc : X.calm = true) (hg : Gl X "list") (hm : X.mg "list" = none) (hg2 : Gl X "range") (hm2 : X.mg "range" = none) (ha : GE X T W a ta) (hb : GE X T W b tb)
    (na : starEach [a, b] X.env = (false, eval a X.env) :: starEach [b] X.env := by rfl) (nb : starEach [b] X.env = (false, eval b X.env) :: starEach [] X.env := by rfl) (hp : (backTo pos2 (starEach [b] X.env)).any (·.1) = false := by rfl)
    (ne : starEach [.Call (.Name "range" p2) [a, b] [] pos2] X.env = (false, eval (.Call (.Name "range" p2) [a, b] [] pos2) X.env) :: starEach [] X.env := by rfl) :
    GE X T W (.Call (.Name "list" p) [.Call (.Name "range" p2) [a, b] [] pos2] [] pos) (e2 oLstRg ta tb) := PE.imp (pe_listRg hc hg hm (prg_2 hg2 hm2 ha hb na nb hp) ne) fun σ H Qv ⟨s, S, ω, rl, rs, q⟩ => by
  refine ⟨s, S, ω, rl, rs, (EPg.bind q).mono ?_⟩
  rintro v H1 ⟨ω1, S1, d, e1, rl1, r1, q1⟩
  refine ⟨s, S1, ω1, rl1, rs.ext e1, (EPg.bind q1).mono ?_⟩
  rintro u H2 ⟨ω2, S2, d2, e2, rl2, r2, q2⟩
  have r1' := r1.ext e2
  have q3 := PQ.of q2
  unfold oLstRg at q3
  split at q3
  · rename_i i j
    split at q3
    · rename_i h
      simp only [Bool.and_eq_true, decide_eq_true_eq] at h
      refine ⟨i, j, r1'.int, r2.int, ⟨by omega, by omega, by omega, by omega, by omega⟩, ?_⟩
      exact q3.newLst rl2 (rps_rng i _)
    · exact q3.elim
  · exact q3.elim
end
end Q
set_option maxHeartbeats 1000000
namespace Q
open PySem PySem.Spec PyProof.Rows L2
def tDispT (K : PySem.W.Frag) (trs : List (L2.TE × L2.TE)) : L2.TE := fun σ H Q => ∀ p, H p = none → tPairs trs σ (upd H p (.dT [])) fun ps H2 => H2 p = some (.dT []) ∧ ∃ (b : Addr) (k : List Key) (v : V), ps = [(.ref b, v)] ∧ SqT K H2 b (k.map kV) ∧ Q (.ref p) (upd H2 p (.ext (isDc p)))
theorem key_any {X : Cx} {pins : List (Addr × Obj)} {σ : L2.St} {H : Hp} {s : Shared} {ks : List Key} {a : Addr} (I : Inv X pins σ H s) (e : SqT X.K H a (ks.map kV)) : (tupleKind (mixKind X.prog X.w)).is s.heap ks a := by
  obtain ⟨its, r, ⟨o, g1, g2, n, g3⟩, _⟩ := I.tuple e
  exact ⟨o, _, n, g1, g2, g3, by simpa using items_are r⟩
theorem pe_dispT {X : Cx} {pos : Pos} {keys : List (Option Expr)} {values : List Expr} {trs : List (L2.TE × L2.TE)} (hu : X.A.units + 1 < cLine) (h : PPs X pos keys values trs) (hall : keys.all (·.isSome) = true) (hl : keys.length = values.length) (h0 : keys ≠ [])
    (h15 : keys.length ≤ 15) : PE X (.Dict keys values pos) (tDispT X.K trs) := by
  refine ⟨fun pins s σ H Q I q => ?_⟩
  have fr := I.hok.fresh (Nat.le_refl s.heap.objs.size)
  have I1 := I.laid (t' := s.toks) (h' := s.heap.push { cls := .type "dict", data := .dict #[] }) (a := s.heap.objs.size) (o := .dT []) (fun _ _ z => Heap.get?_push_of_some _ z) (Nat.le_refl _) (dt_empty s.heap I.big)
  refine wpAny_Dict_any hall hl h0 h15 (thn (h.run pins _ σ _ _ I1 (q _ fr)) fun ws s2 ⟨ps, H2, I2, rel, e, b, k, v, ep, eb, q2⟩ => ?_)
  subst ep
  cases rel with
  | @cons p0 q0 ps0 qs0 hr ht =>
    cases ht
    obtain ⟨u, r⟩ := q0
    obtain ⟨ru, rv⟩ := hr
    simp only at ru rv
    cases (show u = Value.ref b from ru)
    obtain ⟨z, hd, xs, rel, dd⟩ := dt_of I2.hok e
    cases rel
    unfold storeAll
    rw [List.forIn_cons]
    refine wpAny_bind (wpAny_bind (wpAny_dictSet_heap (hsz := by simp [sizeLine_eq]) (knd := tupleKind (mixKind X.prog X.w)) (by show X.A.units < cLine; omega) (key_any I2 eb) dd fun h' dd' hs => wpAny_pure ?_))
    simp only [List.forIn_nil]
    refine wpAny_pure ⟨.ref s.heap.objs.size, _, ?_, rfl, q2⟩
    obtain ⟨ob, es, ep, g1, g2, g3, _⟩ := dd'
    refine d_write I2 (by rw [e]; exact True.intro) hs ⟨ob, g1⟩ ⟨⟨ob, es, ep, g1, g2.1, g3⟩, ⟨ob, g1⟩, fun h1 h2 ⟨o1, es1, n1, j1, j2, j3⟩ jj => ⟨o1, es1, n1, jj _ j1, j2, j3⟩⟩
section
variable {X : Cx} {T : Tx} {W : WX} {a b : Expr} {ta : Q.TE} {ts : List Q.TE} {pos : Pos}
theorem keysD_ok {K : PySem.W.Frag} {T : Tb} {ω : Wd} : ∀ {ds : List D} {ks : List Key} {vs : List V}, keysD ds = some ks → Rps K T ω ds vs → vs = ks.map kV
  | [], ks, vs, h, r => by
    cases h
    unfold Rps at r
    subst r
    rfl
  | d :: ds, ks, vs, h, r => by
    unfold Rps at r
    obtain ⟨v, ws, rfl, r1, r2⟩ := r
    unfold keysD at h
    split at h
    · rename_i k ks' hk hks
      cases h
      have e := keysD_ok hks r2
      subst e
      have : v = kV k := by
        cases d <;> try (cases hk; done)
        · cases hk; exact r1.int
        · cases hk; exact r1.str
      subst this
      rfl
    · cases h
theorem ge_dctT {ks : List (Option Expr)} {vs : List Expr} (hu : X.A.units + 64 < cLine) (hnl : T.toTb.lam = none) (h : GDs X T W pos ks vs ts) (h0 : ks ≠ [] := by intro z; cases z) (h15 : ks.length ≤ 15 := by decide) : GE X T W (.Dict ks vs pos) (eDctT ts) := by
  obtain ⟨trs, h1, h2, h3, h4⟩ := h
  refine PE.imp (pe_dispT (by omega) h1 h2 h3 h0 h15) fun σ H Qv ⟨s, S, ω, rl, rs, q⟩ => ?_
  intro p hp
  have nA := own_of rl hp
  have rl0 := Own.not_upd (T := T) (o := .dT []) rl nA (.inl hp)
  refine h4 σ _ _ ⟨s, S, ω, rl0, rs, ?_⟩
  unfold eDctT at q
  cases e0 : eArgs ts s S with
  | err => rw [e0] at q; exact q
  | ex x S1 =>
    rw [e0] at q
    exact fun ω' H' cls dd ex rl' er => q ω' H' cls dd (by
      refine ⟨ex.fix, ex.al, ex.len, ex.ao, ex.lenO, ex.live, fun b o hb t n => ex.frame b o (by rw [upd_ne (ne_of_none hb hp)]; exact hb) t n⟩) rl' er
  | ok ds S1 =>
    rw [e0] at q
    simp only [Res.bind] at q
    intro ω1 H1 ps ex rl1 ⟨r1, r2⟩
    have ex0 : Ext ω S H ω1 S1 H1 := ⟨ex.fix, ex.al, ex.len, ex.ao, ex.lenO, ex.live, fun b o hb t n => ex.frame b o (by rw [upd_ne (ne_of_none hb hp)]; exact hb) t n⟩
    obtain ⟨x1, x2⟩ := ex.frame p (.dT []) upd_same (fun ps z => by cases z) nA
    split at q
    · rename_i dx dy
      split at q
      · rename_i kk hk
        match ps, r1 with
        | [], r1 => have := r1.length; simp at this
        | p1 :: p2 :: ps, r1 => have := r1.length; simp at this
        | [(x, y)], r1 =>
          have r1' : Rps X.K T.toTb ω1 [dx, dy] [x, y] := r1
          unfold Rps at r1'
          obtain ⟨v, ws, e1, ra, r1'⟩ := r1'
          cases e1
          unfold keysT at hk
          split at hk
          · rename_i tds
            obtain ⟨b, us, rfl, hT, hu2⟩ := Rp.tup rl1 ra
            have eu := keysD_ok hk hu2
            subst eu
            refine ⟨x1, b, kk, y, rfl, hT, ?_⟩
            have rl2 := Own.not_updP (T := T) (o := .ext (isDc p)) rl1 x2 (.inr ⟨_, x1, trivial⟩)
            have ex2 : Ext ω S H ω1 S1 (upd H1 p (.ext (isDc p))) := ex0.upd_out hp
            obtain ⟨ω3, x1', rl3, hF, lt⟩ := Rl.adopt rl2 ex2 hp upd_same x2 (hlm := fun I hI => by rw [hnl] at hI; cases hI)
            refine q ω3 _ _ x1' rl3 ?_
            unfold Rp
            exact ⟨p, rfl, hF⟩
          · cases hk
      · exact q.elim
    · exact q.elim
end
end Q
set_option maxHeartbeats 2000000
namespace Q
open PySem PySem.Spec PyProof.Rows L2
theorem clo_nil {cells : List (Str × Addr)} {names : List (Str × NameKind)} (h : ∀ y ∈ names, y.2 ≠ .free) : cloFrom cells names [] = [] := by
  cases e : cloFrom cells names [] with
  | nil => rfl
  | cons z zs =>
    obtain ⟨x, c⟩ := z
    rcases cloFrom_mem (cells := cells) (names := names) (acc := []) (n := x) (c := c) (by rw [e]; exact List.mem_cons_self) with m | ⟨m, _⟩
    · cases m
    · exact absurd rfl (h _ m)
section
variable {X : Cx} {pins : List (Addr × Obj)} {σ : L2.St} {H : Hp} {s : Shared}
theorem lam_lay {I0 : LamI} {c : Addr} {pm ct : Value} {h1 : Heap} {t1 t2 : Nat} (I : Inv X pins σ H { s with heap := h1, toks := t1 }) :
    Inv X pins σ (upd H h1.objs.size (LamO I0 h1.objs.size c)) { s with heap := h1.push (PySem.W.kla_obj "<lambda>" I0.q I0.ps I0.b I0.sc [] pm c ct), toks := t2 } := by
  have g : (h1.push (PySem.W.kla_obj "<lambda>" I0.q I0.ps I0.b I0.sc [] pm c ct)).get? h1.objs.size = some (PySem.W.kla_obj "<lambda>" I0.q I0.ps I0.b I0.sc [] pm c ct) := Heap.get?_push_size _ rfl
  exact I.laid (t' := t2) (fun b u q => Heap.get?_push_of_some _ q) (Nat.le_refl _) ⟨⟨_, _, pm, ct, g⟩, ⟨_, g⟩, fun ha hb ⟨od, sl, pm2, ct2, z⟩ st => ⟨od, sl, pm2, ct2, st _ z⟩⟩
theorem lam_new {T : List (Addr × Str)} {c P : Addr} {ps : Arguments} {b : Expr} {sc : Scope} {pos : Pos} {E Qf : Value → Shared → Prop} (I : Inv X pins σ H s) (TB : LamX.TabB X.base X.mg c P) (hcode : X.env.code = .ref c) (hm : (P, X.env.qual ++ "<lambda>") ∈ T)
    (hu : ∀ p ∈ T, p.1 = P → p.2 = X.env.qual ++ "<lambda>") (hT : LamX.Tabs T H) (hdef : defaultsOf ps X.env = ([], [])) (hfr : ∀ y ∈ sc.names, y.2 ≠ .free)
    (k : ∀ (f c1 : Addr) (H1 : Hp) (s1 : Shared), Inv X pins σ H1 s1 → LamX.ExtN H H1 → LamX.Tabs T H1 → H f = none → H1 f = some (LamO ⟨X.env.qual ++ "<lambda>", ps, b, sc⟩ f c1) → H1 c1 = some (LamX.CodeO c1 (X.env.qual ++ "<lambda>")) → Qf (.ref f) s1) :
    wpAny (model X.prog X.w) X.A (eval (.Lambda ps b sc pos) X.env) Qf E s := by
  obtain ⟨qs, hP, tr, am⟩ := hT _ hm
  have hcl : closureFor sc X.env = pure [] := by
    rw [← clo_nil (cells := X.env.cells) hfr]
    exact closure_ok fun y hy e => absurd e (hfr y hy)
  have blt := TB.bm.keeps I.bk
  have hP1 : s.heap.get? P = some { cls := .none, data := .fields qs } := I.hok P _ hP
  refine PySem.W.kla_eval hdef ?_
  cases hcd : codeAmong pos qs.toList with
  | some cv =>
    obtain ⟨c1, rfl, hc1⟩ := am pos cv hcd
    refine PySem.W.kla_makeFunctionHit (mg := X.mg) (c := c) (P := P) (ps := qs) hcl I.ok.glob (I.mod.glob.keeps I.bk) hcode (TB.code.keeps I.bk) hP1 tr hcd blt ?_
    intro ct h1 tk kp sz
    have J0 : Inv X pins σ H { s with heap := h1, toks := tk } := I.kept kp
    have nf : H h1.objs.size = none := J0.hok.fresh (Nat.le_refl _)
    refine k h1.objs.size c1 _ _ (lam_lay (I0 := ⟨X.env.qual ++ "<lambda>", ps, b, sc⟩) (pm := (X.mg "__name__").getD .none) (ct := ct) (t2 := tk) J0) (fun a o z _ => by rw [upd_ne (ne_of_none z nf)]; exact z) (hT.ext fun a o z => by rw [upd_ne (ne_of_none z nf)]; exact z) nf upd_same ?_
    rw [upd_ne (ne_of_none hc1 nf)]
    exact hc1
  | none =>
    refine PySem.W.kla_makeFunction (mg := X.mg) (c := c) (P := P) (ps := qs) hcl I.ok.glob (I.mod.glob.keeps I.bk) hcode (TB.code.keeps I.bk) hP1 tr hcd TB.gP blt ?_
    intro c1 ct h1 tk kp ge lt rec tab
    obtain ⟨c2, ob, vs, tx, z, ho, hd, hv⟩ := rec
    cases z
    have nc : H c1 = none := I.hok.fresh ge
    have J0 := LamX.inv_table (t' := tk) (more := #[rawInt pos.line, rawInt pos.col, .ref c1]) (h' := h1) I hP kp tab ge ⟨ob, vs, tx, ho, hd, hv⟩
    have nf := J0.hok.fresh (Nat.le_refl h1.objs.size)
    have nP : P ≠ c1 := ne_of_none hP nc
    have x1 : LamX.ExtN H (upd (upd H P (.tbl (qs ++ #[rawInt pos.line, rawInt pos.col, .ref c1]))) c1 (LamX.CodeO c1 (X.env.qual ++ "<lambda>"))) := fun a o z n => by
      have na : a ≠ P := fun w => n qs (by rw [w, hP] at z; exact (Option.some.inj z).symm)
      rw [upd_ne (ne_of_none z nc), upd_ne na]
      exact z
    have el : (qs ++ #[rawInt pos.line, rawInt pos.col, .ref c1]).toList = qs.toList ++ [rawInt pos.line, rawInt pos.col, .ref c1] := by simp
    have T1 : LamX.Tabs T (upd (upd H P (.tbl (qs ++ #[rawInt pos.line, rawInt pos.col, .ref c1]))) c1 (LamX.CodeO c1 (X.env.qual ++ "<lambda>"))) := by
      rintro ⟨p1, p2⟩ hp
      by_cases hb : p1 = P
      · have hq : p2 = X.env.qual ++ "<lambda>" := hu _ hp hb
        subst hb hq
        refine ⟨qs ++ #[rawInt pos.line, rawInt pos.col, .ref c1], ?_, ?_, ?_⟩
        · rw [upd_ne nP, upd_same]
        · rw [el]; exact PySem.TriplesOk_snoc _ _ _ _ tr
        · intro po cv hcv
          rw [el] at hcv
          rcases LamX.among_app _ tr hcv with w | w
          · obtain ⟨c0, w1, w2⟩ := am po cv w
            exact ⟨c0, w1, x1 _ _ w2 LamX.codeO_ne⟩
          · exact ⟨c1, w, upd_same⟩
      · obtain ⟨rs, a1, a2, a3⟩ := hT _ hp
        refine ⟨rs, ?_, a2, ?_⟩
        · rw [upd_ne (ne_of_none a1 nc), upd_ne hb]; exact a1
        · intro po cv hcv
          obtain ⟨c0, w1, w2⟩ := a3 po cv hcv
          exact ⟨c0, w1, x1 _ _ w2 LamX.codeO_ne⟩
    refine k h1.objs.size c1 _ _ (lam_lay (I0 := ⟨X.env.qual ++ "<lambda>", ps, b, sc⟩) (pm := (X.mg "__name__").getD .none) (ct := ct) (t2 := tk) J0) (fun a o z n => ?_) (T1.ext fun a o z => by rw [upd_ne (ne_of_none z nf)]; exact z) (I.hok.fresh (Nat.le_trans ge (Nat.le_of_lt lt))) upd_same ?_
    · have w := x1 a o z n
      rw [upd_ne (ne_of_none w nf)]
      exact w
    · rw [upd_ne (Nat.ne_of_lt lt)]
      exact upd_same
end
section
variable {X : Cx} {T : Tx} {W : WX} {a : Expr} {ta : Q.TE} {pos : Pos}
theorem ge_lam {c P : Addr} {ps : Arguments} {b : Expr} {sc : Scope} (TB : LamX.TabB X.base X.mg c P) (hcode : X.env.code = .ref c) (hm : (P, X.env.qual ++ "<lambda>") ∈ T.tabs) (hu : ∀ p ∈ T.tabs, p.1 = P → p.2 = X.env.qual ++ "<lambda>")
    (hdef : defaultsOf ps X.env = ([], [])) (hfr : ∀ y ∈ sc.names, y.2 ≠ .free) (hI : T.toTb.lam = some ⟨X.env.qual ++ "<lambda>", ps, b, sc⟩) : GE X T W (.Lambda ps b sc pos) (eC .lam) := ⟨fun pins s σ H Qv I ⟨s0, S, ω, rl, rs, q⟩ => by
  refine lam_new I TB hcode hm hu rl.tab.1 hdef hfr fun f c1 H1 s1 I1 eN t1 nf hf hc => ?_
  obtain ⟨ex, rl1⟩ := rl.extN eN t1
  have nO : ¬ Own ω S f := own_of rl nf
  obtain ⟨ω2, e2, rl2, hF, lt⟩ := Rl.adoptG rl1 ex nf hf nO (fun qs z => by unfold LamO at z; cases z) (fun I2 hI2 g hg => by
    rw [hI] at hI2
    cases hI2
    by_cases hb : g = f
    · subst hb
      exact ⟨c1, upd_same, hc⟩
    · rw [upd_ne hb] at hg
      obtain ⟨c2, g1, g2⟩ := rl1.tab.2 _ hI g hg
      exact ⟨c2, by rw [upd_ne hb]; exact g1, g2⟩)
  exact ⟨.ref f, H1, I1, rfl, q ω2 H1 _ e2 rl2 (by unfold Rp; exact ⟨f, rfl, _, c1, hI, hF⟩)⟩⟩
theorem ge_fnv {x : Str} {f : Addr} {id : Nat} (hg : Gl X x) (hm : X.mg x = some (.ref f)) (hid : T.fa id = f) (hd : (x == ("__debug__" : Str)) = false := by decide) : GE X T W (.Name x pos) (eC (.fn id)) := ⟨fun pins s σ H Qv I ⟨s0, S, ω, rl, rs, q⟩ => by
  refine ld_glob I hg hm ?_ hd
  exact ⟨.ref f, H, I, rfl, q ω H _ Ext.refl rl (by unfold Rp; rw [hid])⟩⟩
abbrev nfOf (I0 : LamI) (c : Addr) : NdefX.NF := ⟨"<lambda>", I0.q, I0.ps, [], I0.sc, [], c⟩
theorem run_lam {I0 : LamI} {N : List Str} {x : Str} {k : Nat} {lt : Q.TE} {f c : Addr} {pins : List (Addr × Obj)} {σ : L2.St} {H : Hp} {s : Shared} {u : Value} {v : V} {Qv : VK} {d : D} {S : Store} {ω : Wd} {n : Nat}
    (Sc : NdefX.NScope N [x] [] I0.sc) (hn : N.length = n + 1) (hb : ∀ (pm ct : Value) (u : Value), bindArgs (PySem.W.kla_fn "<lambda>" I0.q I0.ps I0.b I0.sc [] pm (.ref c) ct) ⟨[u], []⟩ = pure [(x, u)]) (hr : Room (k + 1) X.A) (tk : Takes X W)
    (hbody : ∀ (A : Around) (outer : List Env) (s : Shared) (H : Hp) (E : XK), Room k (A.deeper (NdefX.envF (nfOf I0 c) f s.heap.objs.size)) →
      GE (NdefX.ncx (L2.CX X.prog X.w) X.prog X.w X.K X.mg X.base N (nfOf I0 c) f A outer s H E) T (fun cls dd _ H => E cls dd H) I0.b lt)
    (I : Inv X pins σ H s) (hf : H f = some (LamO I0 f c)) (hc : H c = some (LamX.CodeO c I0.q)) (ru : L2.RelV v u) (rl : Rl X.K T.toTb ω S H) (rd : Rp X.K T.toTb ω d v)
    (q : EPg X.K T (Rp X.K T.toTb) W σ ω S H (lt (some d :: List.replicate n none) S) Qv) : wpAny (model X.prog X.w) X.A (call (.ref f) [u]) (EP X pins σ Qv) X.xe s := by
  obtain ⟨⟨od, sl, pm, ct, ho⟩, _, _⟩ := I.hok f _ hf
  have e0 := I.env0
  have hl : ([v] : List V).length = ([x] : List Str).length := rfl
  have rv : Vals [v] [u] := .cons ru .nil
  have C : NdefX.CellsAt (nfOf I0 c).cl ([] : List Str) ([] : List (Option V)) s.heap H := by
    refine NdefX.CellsAt.mk rfl ?_ ?_ ?_
    · intro y z w
      exact absurd w (by simp)
    · intro y1 y2 z w
      exact absurd w (by simp)
    · intro i y w
      exact absurd w (by simp)
  have lim : s.heap.NoLimit := I.nolimit
  refine wpAny_call (codeAny_mono (?_ : codeAny (model X.prog X.w) X.A (.call (.ref f) ⟨[u], []⟩) (CR (L2.CX X.prog X.w) X.stack X.prog X.w H s Qv (WE W σ)) s) fun r s1 hq => ?_)
  · refine PySem.W.kla_callFunE hr.depth ho rfl Sc.co Sc.gen rfl (NdefX.codeO_at I.hok hc) ?_
    rw [hb pm ct u]
    refine wpAny_pure (wpAny_newFunctionEnv Sc.nocell (fun ⟨y, w⟩ hy => Sc.par y (by cases hy with | head => exact List.mem_cons_self | tail _ z => cases z)) (fun h1 hns hsb => ⟨lim.fresh _ hsb, ?_⟩) Sc.kind)
    show codeAny _ _ (.expr I0.b (NdefX.envF (nfOf I0 c) f s.heap.objs.size)) _ _
    have kp : ∀ b o, s.heap.get? b = some o → h1.get? b = some o := fun b o e => hsb.extBut b o (Nat.ne_of_lt (Heap.lt_size e)) (Heap.get?_push_of_some _ e)
    have J := NdefX.inv_startN (CX := L2.CX X.prog X.w) (E := WE W σ) (F := nfOf I0 c) (f := f) (N := N) (ps := [x]) (fr := []) (h₁ := h1) (tk := s.toks + 1) Sc hr.hd e0 hl rv C hns kp
    refine PySem.W.kla_codeExpr (wpAny_mono ((hbody X.A X.stack s H (WE W σ) (hr.deeper _)).run [] _ _ H Qv J ⟨some d :: List.replicate n none, S, ω, rl, ?_, ?_⟩) (fun w s1 hq => ?_) fun e s1 hq => hq)
    · refine ⟨?_, fun i e ei => ?_⟩
      · show (some d :: List.replicate n none).length = (NdefX.startF N [v] []).length
        unfold NdefX.startF
        simp
        omega
      · cases i with
        | zero =>
          cases ei
          exact ⟨v, rfl, rd⟩
        | succ i =>
          rw [List.getElem?_cons_succ, List.getElem?_replicate] at ei
          split at ei <;> cases ei
    · cases z : lt (some d :: List.replicate n none) S with
      | ok r S1 => rw [z] at q; exact q
      | ex y S1 => rw [z] at q; exact q
      | err => rw [z] at q; exact q
    · obtain ⟨v1, H1, J1, r1, q1⟩ := hq
      exact ⟨v1, H1, J1.os, J1.bare, J1.base, J1.hok, r1, q1⟩
  · cases r with
    | error e => exact passAt tk σ pins H s e s1 I hq
    | ok fl =>
      cases fl with
      | ret w => exact I.after hq
      | next => exact False.elim hq
      | brk => exact False.elim hq
      | cont => exact False.elim hq
theorem ge_callV {I0 : LamI} {N : List Str} {x y z : Str} {k kl i gid n : Nat} {Pr : Prog} {lt : Q.TE} {f : Addr} {p : Pos} (F : FnO X.prog X.w X.K X.mg X.base T Pr k gid z f [y]) (hid : T.fa gid = f) (hr : Room k X.A) (hrl : Room (kl + 1) X.A) (tk : Takes X W) (hI : T.toTb.lam = some I0)
    {xl : Str} (Sc : NdefX.NScope N [xl] [] I0.sc) (hn : N.length = n + 1) (hb : ∀ (c : Addr) (pm ct : Value) (u : Value), bindArgs (PySem.W.kla_fn "<lambda>" I0.q I0.ps I0.b I0.sc [] pm (.ref c) ct) ⟨[u], []⟩ = pure [(xl, u)])
    (hbody : ∀ (g c : Addr) (A : Around) (outer : List Env) (s : Shared) (H : Hp) (E : XK), Room kl (A.deeper (NdefX.envF (nfOf I0 c) g s.heap.objs.size)) →
      GE (NdefX.ncx (L2.CX X.prog X.w) X.prog X.w X.K X.mg X.base N (nfOf I0 c) g A outer s H E) T (fun cls dd _ H => E cls dd H) I0.b lt)
    (hN : X.N[i]? = some x) (hv : Vis X.env.scope x) (ha : GA X T W [a] [ta]) (hdb : (x == ("__debug__" : Str)) = false := by decide) (hcd : (x == ("__classdict__" : Str)) = false := by decide)
    (he : starEach [a] X.env = (false, eval a X.env) :: starEach [] X.env := by rfl) (hpl : (backTo pos (starEach [] X.env)).any (·.1) = false := by rfl) :
    GE X T W (.Call (.Name x p) [a] [] pos) (eCallV true (callN Pr k) i gid lt n ta) := ⟨fun pins s σ H Qv I ⟨s0, S, ω, rl, rs, q⟩ => by
  unfold eCallV at q
  rw [if_pos rfl] at q
  cases hs : s0[i]? with
  | none => rw [hs] at q; exact q.elim
  | some o =>
    rw [hs] at q
    cases o with
    | none => exact q.elim
    | some d =>
      obtain ⟨v, h1, h2⟩ := rs.2 i _ hs
      cases d with
      | fn id =>
        simp only at q
        by_cases hg : id = gid
        · rw [if_pos hg] at q
          subst hg
          unfold Rp at h2
          rw [hid] at h2
          subst h2
          obtain ⟨fd, hbd, ok⟩ := F.fn
          refine wpAny_Call_Name_kw (thn ((pe_var (pos := p) hN hv hdb hcd).run pins s σ H (fun w H1 => w = .ref f ∧ H1 = H) I ⟨.ref f, h1, rfl, rfl⟩) fun u s1 ⟨w, H1, I1, r1, q1⟩ => ?_)
          obtain ⟨rfl, rfl⟩ := q1
          cases r1
          refine PySem.W.callWith_K (h₀ := X.base) I.ok.mod.kin F.kp (thn (ha.run pos pins s1 σ _ (fun vs H2 => spOf X.K T Pr k id vs H2 Qv (WE W σ)) I1 ⟨s0, S, ω, rl, rs, (EPg.bind q).mono ?_⟩) fun us s2 ⟨vs, H2, I2, r, q2⟩ => ⟨I2.kIn, ?_⟩) he hpl
          · rintro vs H2 ⟨ω2, S2, ds, e2, rl2, r2, q2⟩
            refine ⟨ds, S2, ω2, rl2, r2, ?_⟩
            cases zz : callN Pr k id ds S2 with
            | ok d S3 => rw [zz] at q2; exact q2
            | ex x S3 => rw [zz] at q2; exact q2
            | err => rw [zz] at q2; exact q2
          · exact run_fnS ok hr hbd (passAt tk σ) I2 r q2
        · rw [if_neg hg] at q; exact q.elim
      | lam =>
        simp only at q
        unfold Rp at h2
        obtain ⟨g, rfl, I1, c0, e1, hF⟩ := h2
        rw [hI] at e1
        cases e1
        have at_ : ∀ {H1 : Hp} {s1 : Shared}, Inv X pins σ H1 s1 → H1 g = some (LamO I0 g c0) → PySem.W.FnAt g s1.heap := fun I1 hg => by
          obtain ⟨⟨od, sl, pm, ct, ho⟩, _, _⟩ := I1.hok g _ hg
          exact ⟨_, _, _, _, ho⟩
        refine wpAny_Call_Name_kw (thn ((pe_var (pos := p) hN hv hdb hcd).run pins s σ H (fun w H1 => w = .ref g ∧ H1 = H) I ⟨.ref g, h1, rfl, rfl⟩) fun u s1 ⟨w, H1, I1, r1, q1⟩ => ?_)
        obtain ⟨rfl, rfl⟩ := q1
        cases r1
        refine PySem.W.callWith_F (at_ I1 (rl.sub _ _ hF)) (thn (ha.run pos pins s1 σ _ (fun vs H2 => ∃ ds S2 ω2, Ext ω S H1 ω2 S2 H2 ∧ Rl X.K T.toTb ω2 S2 H2 ∧ Rps X.K T.toTb ω2 ds vs ∧ EPg X.K T (Rp X.K T.toTb) W σ ω2 S2 H2 ((fun xs S1 => match xs with | [x] => lt (some x :: List.replicate n none) S1 | _ => Res.err) ds S2) Qv) I1 ⟨s0, S, ω, rl, rs, (EPg.bind q).mono ?_⟩) fun us s2 ⟨vs, H2, I2, r, q2⟩ => ?_) he hpl
        · rintro vs H2 ⟨ω2, S2, ds, e2, rl2, r2, q2⟩
          exact ⟨ds, S2, ω2, e2, rl2, r2, q2⟩
        · obtain ⟨ds, S2, ω2, ex, rl2, r2, q3⟩ := q2
          have hF2 := ex.fix _ _ hF
          refine ⟨at_ I2 (rl2.sub _ _ hF2), ?_⟩
          match ds, r2, q3 with
          | [], _, q3 => exact q3.elim
          | _ :: _ :: _, _, q3 => exact q3.elim
          | [d], r2, q3 =>
            obtain ⟨v, rfl, rd⟩ := r2.one
            cases r with
            | cons ru rt =>
              cases rt
              obtain ⟨c2, g1, g2⟩ := rl2.tab.2 I0 hI g ⟨c0, hF2⟩
              exact run_lam Sc hn (fun pm ct u => hb c2 pm ct u) hrl tk (hbody g c2) I2 (rl2.sub _ _ g1) g2 ru rl2 rd q3
      | _ => exact q.elim⟩
theorem ge_callVC {k i gid n : Nat} {Pr : Prog} {e : Expr} {lt ta : Q.TE} (h0 : Pr 999999 = none) (h : ∀ j, k = j + 2 → GE X T W e (eCallV true (callN Pr k) i gid lt n ta)) : GE X T W e (eCallV (deep (callN Pr k)) (callN Pr k) i gid lt n ta) := by
  have ez : ∀ c, eCallV false c i gid lt n ta = fun _ _ => Res.err := fun c => by
    funext s S
    rfl
  match k, h with
  | 0, _ => rw [deep_zero, ez]; exact ge_err
  | 1, _ => rw [deep_one h0, ez]; exact ge_err
  | j + 2, h => rw [deep_low h0]; exact h j rfl
end
section
variable {X : Cx} {T : Tx} {W : WX} {pos : Pos}
theorem gs_tryS {cs : List Nat} {body : List Stmt} {h₀ : ExceptHandler} {hds : List ExceptHandler} {tb : TSt} {hs : List (Nat × TSt)} (hst : X.stack = X.env :: X.outer) (hf : X.env.frame = some X.env.locals) (tk : Takes X W)
    (hx : ∀ c ∈ cs, ∀ q ∈ hs, PySem.W.exmOne X.K (.ref (T.cl c)) (.ref (T.cl q.1)) = some (isSub c q.1))
    (hb : ∀ (W' : WX) (pn : List (Addr × Obj)) (xe : Value → Shared → Prop), Takes (X.tr pn xe) W' → GSs (X.tr pn xe) T W' body tb) (hh : HdsQ X T (h₀ :: hds) hs) :
    GS X T W (.Try body (h₀ :: hds) [] [] pos) (tTryS cs tb hs) :=
  PS.imp (ps_try_many hst hf tk (tb := fun W' => tSr X.K T W' tb) (fun W' pn xe tk' _ => hb W' pn xe tk') hh.ok) fun D σ H ⟨s, S, ω, rl, rs, q⟩ => by
    refine ⟨s, S, ω, rl, rs, ?_⟩
    unfold tTryS at q
    cases e : tb s S with
    | none => rw [e] at q; exact q
    | some r =>
      obtain ⟨f, S'⟩ := r
      rw [e] at q
      cases f with
      | nx s1 => exact q
      | ret d => exact q
      | bk s1 => exact q
      | ct s1 => exact q
      | ex x s1 =>
        simp only at q
        by_cases hc : x.cls ∈ cs
        · rw [if_pos hc] at q
          intro ω' σ' H' cls dd ex rl' rs' er
          have go : ∀ (l : List (Nat × TSt)), (∀ q ∈ l, q ∈ hs) → (match hFind x.cls l with
              | some t => SPg X.K T W D ω S H (Q.noEx (t s1 S'))
              | none => False) → wMany X.K W D (hdsTS X.K T l) cls dd σ' H' := by
            intro l
            induction l with
            | nil => intro _ z; exact z.elim
            | cons q0 l ih =>
              intro hm z
              obtain ⟨d0, t0⟩ := q0
              refine ⟨isSub x.cls d0, by rw [er.1]; exact hx _ hc (d0, t0) (hm _ List.mem_cons_self), fun hb a _ => ?_, fun hb => ?_⟩
              · unfold hFind at z
                rw [if_pos hb] at z
                exact ⟨s1, S', ω', rl', rs', SPg.shift ex (SPg.noEx z)⟩
              · unfold hFind at z
                rw [if_neg (by rw [hb]; decide)] at z
                exact ih (fun q hq => hm q (List.mem_cons_of_mem _ hq)) z
          refine go hs (fun _ h => h) ?_
          cases hF : hFind x.cls hs with
          | none => rw [hF] at q; exact q
          | some t => rw [hF] at q; exact q
        · rw [if_neg hc] at q; exact q.elim
end
def forLam (q : Str) : List Stmt → Option LamI
  | _ :: .For _ (.Tuple (.Lambda ps b sc _ :: _) _ _) _ _ _ :: _ => some ⟨q, ps, b, sc⟩
  | _ => none
end Q
set_option maxHeartbeats 2000000
namespace HT
open PySem PySem.Spec PyProof.Rows L2
section
variable {prog : Program} {w : World} {A : Around} {E : Value → Shared → Prop} {s : Shared}
theorem places_back (n : Nat) : Builtin.Slice.slicePlaces ((n : Int) - 1) (-1) (-1) = n := by
  unfold Builtin.Slice.slicePlaces
  have h1 : ¬ ((-1 : Int) > 0) := by omega
  simp only [h1, if_false]
  split
  · have e : (- -1 : Int) = 1 := by omega
    rw [e, Int.ediv_one]
    omega
  · omega
theorem sliceApplied_back {sl : Addr} {u : Tok} {n : Nat} {Q : Int × Int × Nat → Shared → Prop} (hs : s.heap.IsSliceOf sl .none .none (.int (-1) u)) (h : Q ((n : Int) - 1, -1, n) s) : wpAny (model prog w) A (Builtin.Slice.sliceApplied (.ref sl) (pure (n : Int))) Q E s := by
  obtain ⟨os, hos, hcs, hds⟩ := id hs
  unfold Builtin.Slice.sliceApplied Builtin.Slice.sliceFields
  refine wpAny_bind (wpAny_bind (wpAny_field hos hds (x := .none) rfl (wpAny_bind (wpAny_field hos hds (x := .none) rfl (wpAny_bind (wpAny_field hos hds (x := .int (-1) u) rfl (wpAny_pure ?_)))))))
  refine wpAny_bind (slicePart_int ?_)
  show wpAny _ _ (if ((-1 : Int) == 0) = true then _ else _) _ _ s
  rw [if_neg (by decide)]
  refine wpAny_bind (slicePart_none (wpAny_bind (slicePart_none (wpAny_bind (wpAny_pure ?_)))))
  show wpAny _ _ (pure ((n : Int) - 1, (-1 : Int), Builtin.Slice.slicePlaces ((n : Int) - 1) (-1) (-1))) _ _ s
  rw [places_back]
  exact wpAny_pure h
theorem fm_congr {α β : Type} {f g : α → Option β} : ∀ {l : List α}, (∀ x ∈ l, f x = g x) → l.filterMap f = l.filterMap g
  | [], _ => rfl
  | x :: l, h => by
    rw [List.filterMap_cons, List.filterMap_cons, h x List.mem_cons_self, fm_congr fun y hy => h y (List.mem_cons_of_mem _ hy)]
theorem pick_back (xs : Array Value) : ((List.range xs.size).filterMap fun (m : Nat) => xs[(((xs.size : Int) - 1) + (m : Int) * (-1)).toNat]?).toArray = xs.toList.reverse.toArray := by
  congr 1
  have h2 : (List.range xs.size).filterMap (fun (m : Nat) => xs[(((xs.size : Int) - 1) + (m : Int) * (-1)).toNat]?) = (List.range xs.size).filterMap fun (m : Nat) => xs[xs.size - 1 - m]? := by
    refine fm_congr fun m hm => ?_
    have hm' := List.mem_range.mp hm
    have e : (((xs.size : Int) - 1) + (m : Int) * (-1)).toNat = xs.size - 1 - m := by omega
    rw [e]
  rw [h2, ← PySem.W.krv_all xs]
  have h3 := congrArg (List.filterMap fun i => xs[i]?) (PySem.W.krv_range xs.size)
  rw [List.filterMap_map, List.filterMap_reverse] at h3
  exact h3
theorem getItem_tuple_back {t sl : Addr} {items : Array Value} {u : Tok} {Q : Value → Shared → Prop} (ht : IsTup s.heap t items) (hs : s.heap.IsSliceOf sl .none .none (.int (-1) u))
    (h : Q (.ref s.heap.objs.size) { s with heap := s.heap.push { cls := .type "tuple", data := .seq items.toList.reverse.toArray } }) (hsz : items.size ≤ sizeLine) : wpAny (model prog w) A (getItem (.ref t) (.ref sl)) Q E s := by
  have hso : sizeOk (.seq items.toList.reverse.toArray) := by
    show items.toList.reverse.toArray.size ≤ sizeLine
    rw [List.size_toArray, List.length_reverse, Array.length_toList]
    exact hsz
  obtain ⟨os, hos, hcs, hds⟩ := id hs
  have tS : s.TypeIs (.ref sl) "slice" := ⟨os, hos, hcs⟩
  unfold getItem
  try with_reducible refine wpAny_holding ?_
  first | refine wpAny_bind (wpAny_pure ?_) | skip
  refine wpAny_bind (wpAny_sequenceKey ht.typeIs (by decide) (wpAny_bind (wpAny_callSpecial?_slot (name := Str.ofString "__getitem__") ht.typeIs PyProof.Rows.slot_tuple_getitem (wpAny_call_entry PyProof.Rows.slot_tuple_getitem ht.typeIs entry_tuple_getitem ?_ (args_tuple_getitem _ _)))))
  show wpAny _ _ (Builtin.Tuple.tupleItemsOf (.ref t) >>= _) _ _ s
  refine wpAny_bind (tupleItemsOf_ ht (wpAny_bind (wpAny_typeOf tS ?_)))
  rw [if_pos (by decide)]
  refine wpAny_bind (sliceApplied_back hs ?_)
  have hno : ¬ ((((items.size : Int) - 1) == 0 && (-1 : Int) == 1 && items.size == items.size) = true) := by simp
  show wpAny _ _ (if (((items.size : Int) - 1) == 0 && (-1 : Int) == 1 && items.size == items.size) = true then _ else _) _ _ s
  rw [if_neg hno, pick_back]
  first
    | exact wpAny_bind (m := Builtin.Tuple.tupleExact _) (wpAny_newObj_type (wpAny_pure ⟨_, rfl, wpAny_pure h⟩) hso)
    | exact wpAny_bind (m := Builtin.Tuple.tupleExact _) (wpAny_newObj_type (wpAny_bind (wpAny_pure (wpAny_pure ⟨_, rfl, wpAny_pure h⟩))) hso)
    | exact wpAny_bind (wpAny_bind (m := Builtin.Tuple.tupleExact _) (wpAny_newObj_type (wpAny_pure (wpAny_pure ⟨_, rfl, wpAny_pure h⟩)) hso))
    | exact wpAny_bind (wpAny_bind (m := Builtin.Tuple.tupleExact _) (wpAny_newObj_type (wpAny_pure ⟨_, rfl, wpAny_pure h⟩) hso))
end
end HT
namespace Q
open PySem PySem.Spec PyProof.Rows L2
section
variable {X : Cx} {T : Tx} {W : WX} {a : Expr} {ta : Q.TE} {pos : Pos}
def tRevT (K : PySem.W.Frag) (te : L2.TE) : L2.TE := fun σ H Q => te σ H fun x H1 => ∃ a xs, x = .ref a ∧ SqT K H1 a xs ∧ ∀ p, H1 p = none → Q (.ref p) (upd H1 p (.tup xs.reverse))
theorem pe_revT {e : Expr} {te : L2.TE} {k : Nat} {p1 p2 p3 pos : Pos} (he : PE X e te) : PE X (.Subscript e (.Slice none none (some (.UnaryOp .USub (.Constant (.int 1) k p1) p2)) p3) pos) (tRevT X.K te) := by
  refine ⟨fun pins s σ H Qv I h => Subscript_ (thn (he.run pins s σ H _ I h) fun v s1 ⟨x, H1, I1, r1, q1⟩ => ?_)⟩
  obtain ⟨b, xs, rfl, hx, q⟩ := q1
  cases r1
  have hst : PO X (some (.UnaryOp .USub (.Constant (.int 1) k p1) p2)) (tPart (tUn (rU fun i => .int (-i)) (tC (.int 1)))) := po_some (pe_un un_neg pe_int)
  refine wpAny_Slice (thn (po_none.run pins s1 σ H1 (fun o H2 => o = none ∧ H2 = H1) I1 ⟨rfl, rfl⟩) fun vl s2 ⟨l, H2, I2, pl, el, e2⟩ => ?_)
  subst el e2
  refine thn (po_none.run pins s2 σ H2 (fun o H3 => o = none ∧ H3 = H2) I2 ⟨rfl, rfl⟩) fun vu s3 ⟨u, H3, I3, pu, eu, e3⟩ => ?_
  subst eu e3
  refine thn (hst.run pins s3 σ H3 (fun o H4 => o = some (-1) ∧ H4 = H3) I3 ⟨1, rfl, -1, rfl, rfl, rfl⟩) fun vs s4 ⟨o, H4, I4, ps, eo, e4⟩ => ?_
  subst eo e4
  obtain rfl : vl = .none := by cases pl; rfl
  obtain rfl : vu = .none := by cases pu; rfl
  obtain ⟨tk, rfl⟩ : ∃ tk, vs = .int (-1) tk := by cases ps; exact ⟨_, rfl⟩
  have I5 : Inv X pins σ H4 { s4 with heap := s4.heap.push { cls := .type "slice", data := .fields #[.none, .none, .int (-1) tk] } } := I4.kept (t' := s4.toks) fun b ob q => Heap.get?_push_of_some _ q
  obtain ⟨its, r, ht, hz⟩ := I5.tuple hx
  have hlen := r.length
  show wpAny (model X.prog X.w) X.A (subscriptTail e (.Slice none none (some (.UnaryOp .USub (.Constant (.int 1) k p1) p2)) p3) (.ref b) (.ref s4.heap.objs.size)) (EP X pins σ Qv) X.xe { s4 with heap := s4.heap.push { cls := .type "slice", data := .fields #[.none, .none, .int (-1) tk] } }
  refine tail_any (ops := [.ref b, .ref s4.heap.objs.size]) ht.typeIs (PyProof.Rows.slot_tuple_getitem.lookup) ?_ (by with_unfolding_all rfl)
  refine HT.getItem_tuple_back ht (Heap.IsSliceOf.new _ _ _ _) ?_ (by rw [List.size_toArray]; omega)
  refine ⟨.ref _, _, I5.laid (t' := s4.toks) (o := .tup xs.reverse) (fun b ob q => Heap.get?_push_of_some _ q) (Nat.le_refl _) ?_, rfl, q _ (I5.hok.fresh (Nat.le_refl _))⟩
  exact ⟨by rw [List.length_reverse]; exact hz, _, r.reverse, ⟨_, Heap.get?_push_size _ rfl, rfl, _, rfl⟩⟩
theorem ge_revA {k : Nat} {p1 p2 p3 : Pos} (ha : GE X T W a ta) : GE X T W (.Subscript a (.Slice none none (some (.UnaryOp .USub (.Constant (.int 1) k p1) p2)) p3) pos) (e1 oRevA ta) := by
  refine ⟨fun pins s σ H Qv I h => ?_⟩
  obtain ⟨s0, S, ω, rl, rs, q⟩ := h
  have old : (∀ ds S1, ta s0 S ≠ .ok (.tup ds) S1) → EPg X.K T (Rp X.K T.toTb) W σ ω S H (e1 oRev ta s0 S) Qv := fun n => by
    cases e0 : ta s0 S with
    | err => simp only [e1, e0, Res.bind] at q ⊢; exact q
    | ex x S1 => simp only [e1, e0, Res.bind] at q ⊢; exact q
    | ok d S1 =>
      simp only [e1, e0, Res.bind] at q ⊢
      cases d <;> first | exact q | exact absurd e0 (n _ _)
  by_cases ht : ∃ ds S1, ta s0 S = .ok (.tup ds) S1
  · obtain ⟨ds, S1, e0⟩ := ht
    simp only [e1, e0, Res.bind] at q
    refine (pe_revT ha).run pins s σ H Qv I ⟨s0, S, ω, rl, rs, ?_⟩
    rw [e0]
    intro ω' H' v ex rl' r
    have q1 := PQ.of (EPg.shift ex q)
    obtain ⟨p, vs, rfl, h1, r1⟩ := Rp.tup rl' r
    refine ⟨p, vs, rfl, h1, q1.newTup rl' ?_⟩
    refine Rps.of_get (by simp [r1.length]) fun i d v hd hv => ?_
    have hi : i < vs.length := by
      have := (List.getElem?_eq_some_iff.mp hv).1
      simpa using this
    rw [List.getElem?_reverse (by rw [r1.length]; exact hi)] at hd
    rw [List.getElem?_reverse hi] at hv
    obtain ⟨w, hw, rw'⟩ := r1.get hd
    rw [r1.length, hv] at hw
    cases hw
    exact rw'
  · exact (ge_rev ha).run pins s σ H Qv I ⟨s0, S, ω, rl, rs, old fun ds S1 e => ht ⟨ds, S1, e⟩⟩
end
end Q
set_option maxHeartbeats 1000000
namespace Q
open PySem PySem.Spec PyProof.Rows L2
section
variable {X : Cx} {T : Tx} {W : WX} {a b o1 i1 o2 i2 e : Expr} {ta tb to1 ti1 to2 ti2 : Q.TE} {pos : Pos}
theorem sub_core {to ti : Q.TE} {Dn : Ends} {σ : L2.St} {H : Hp} {s : Sl} {S : Store} {ω : Wd} {d : D} {v : V} (rl : Rl X.K T.toTb ω S H) (rs : Rs X.K T.toTb ω s σ) (r : Rp X.K T.toTb ω d v) (q : SPg X.K T W Dn ω S H (gIx to ti d s S)) :
    gSub (tEr X.K T W to) (tEr X.K T W ti) rSetL v σ H Dn.nx := by
  refine ⟨s, S, ω, rl, rs, (onE_ok rs q).mono ?_⟩
  rintro w H2 ⟨ω2, S2, d2, e2, rl2, r2, q2⟩
  refine ⟨s, S2, ω2, rl2, rs.ext e2, (onE_ok (rs.ext e2) q2).mono ?_⟩
  rintro z H3 ⟨ω3, S3, d3, e3, rl3, r3, q3⟩
  split at q3
  · rename_i S4 hset
    unfold setL at hset
    split at hset
    · rename_i k j
      split at hset
      · rename_i xs g
        split at hset
        · rename_i n hn
          split at hset
          · rename_i hf
            cases hset
            obtain ⟨p, vs, rfl, rfl, h1, r4⟩ := Rp.ptr rl3 (r2.ext e3) g
            have hfs := (rl3.obj k xs g).2.1
            have z := rl3.put (es := xs.set n d) g (by
              refine flats_all.mpr fun x hx => ?_
              rcases List.mem_or_eq_of_mem_set hx with h | h
              · exact flats_all.mp hfs x h
              · rw [h]; exact hf) (r4.set n ((r.ext e2).ext e3))
            exact ⟨_, vs, j, n, rfl, r3.int, h1, by rw [← r4.length]; exact hn, q3 ω3 σ _ z.1 z.2 (((rs.ext e2).ext e3).ext z.1)⟩
          · cases hset
        · cases hset
      · cases hset
    · cases hset
  · exact q3.elim
theorem seq_core {t u : TSt} {Dn : Ends} {H : Hp} {s : Sl} {S : Store} {ω : Wd} (q : SPg X.K T W Dn ω S H (Q.tSeq t u s S)) :
    SPg X.K T W { Dn with nx := fun σ1 H1 => ∃ s1 S1 ω1, Ext ω S H ω1 S1 H1 ∧ Rl X.K T.toTb ω1 S1 H1 ∧ Rs X.K T.toTb ω1 s1 σ1 ∧ SPg X.K T W Dn ω1 S1 H1 (u s1 S1) } ω S H (t s S) := by
  unfold Q.tSeq at q
  cases e : t s S with
  | none => rw [e] at q; exact q
  | some p =>
    obtain ⟨f, S'⟩ := p
    rw [e] at q
    cases f with
    | nx s' => exact fun ω' σ' H' ex rl' rs' => ⟨s', S', ω', ex, rl', rs', SPg.shift ex q⟩
    | bk s' => exact q
    | ct s' => exact q
    | ret d => exact q
    | ex x s' => exact q
theorem tEr_mono {K : PySem.W.Frag} {t : Q.TE} {σ : L2.St} {H : Hp} {P Q : VK} (h : tEr K T W t σ H P) (k : ∀ v H, P v H → Q v H) : tEr K T W t σ H Q := by
  obtain ⟨s, S, ω, rl, rs, q⟩ := h
  exact ⟨s, S, ω, rl, rs, q.mono k⟩
theorem gSub_mono {K : PySem.W.Frag} {to ti : Q.TE} {v : V} {σ : L2.St} {H : Hp} {P Q : L2.St → Hp → Prop} (h : gSub (tEr K T W to) (tEr K T W ti) rSetL v σ H P) (k : ∀ σ H, P σ H → Q σ H) : gSub (tEr K T W to) (tEr K T W ti) rSetL v σ H Q := by
  refine tEr_mono h fun o H1 h1 => tEr_mono h1 fun i H2 h2 => ?_
  obtain ⟨p, xs, j, m, e1, e2, e3, e4, q⟩ := h2
  exact ⟨p, xs, j, m, e1, e2, e3, e4, k _ _ q⟩
theorem gs_sw2 {st : Stmt} (h : PS X st (tAsg (tEr X.K T W (eTup [ta, tb])) (gTup X.K 2 (gCons (gSub (tEr X.K T W to1) (tEr X.K T W ti1) rSetL) (gCons (gSub (tEr X.K T W to2) (tEr X.K T W ti2) rSetL) gNil))))) : GS X T W st (tSw2 to1 ti1 to2 ti2 ta tb) := PS.imp h fun D σ H ⟨s, S, ω, rl, rs, q⟩ => by
  refine ⟨s, S, ω, rl, rs, (onE_ok rs q).mono ?_⟩
  rintro v H1 ⟨ω1, S1, d, e1, rl1, r1, q1⟩
  split at q1
  · rename_i x y
    obtain ⟨p, vs, rfl, h1, r2⟩ := Rp.tup rl1 r1
    obtain ⟨vx, vy, rfl, rx, ry⟩ := r2.two
    refine ⟨p, _, rfl, h1, rfl, vx, [vy], rfl, ?_⟩
    have z := sub_core rl1 (rs.ext e1) rx (seq_core q1)
    refine gSub_mono z ?_
    rintro σ2 H2 ⟨s2, S2, ω2, e2, rl2, rs2, q2⟩
    refine ⟨vy, [], rfl, ?_⟩
    refine gSub_mono (sub_core rl2 rs2 (ry.ext e2) q2) fun σ3 H3 z => ⟨rfl, z⟩
  · exact q1.elim
end
theorem ok_listOfM {K : PySem.W.Frag} {T : Tx} : OkN K T (rListOf K) oLstOfM := by
  intro ω S H xs us Qv rl r q
  unfold oLstOfM at q
  split at q
  · obtain ⟨v, rfl, r1⟩ := r.one
    split at q
    · split at q
      · rename_i ds hds hf
        obtain ⟨p, vs, rfl, h1, r2⟩ := Rp.itemsLT rl r1 hds
        have q' : PQ K T ω S H (if flats ds then some (D.ptr S.L.length, S.new ds) else none) Qv := by rw [if_pos hf]; exact q
        exact .inr ⟨_, _, rfl, h1, q'.newM rl r2⟩
      · exact q.elim
    · exact q.elim
  · exact q.elim
end Q
set_option maxHeartbeats 1000000
namespace Q
open PySem PySem.Spec PyProof.Rows L2
def Te (T : Tx) (a : Addr) (cls : Value) (d : Option Addr) (f : Str) : Tx := { T with ea := a, ec := cls, ed := d, ef := f }
section
variable {K : PySem.W.Frag} {T : Tx} {ω : Wd} {a : Addr} {cls : Value} {d : Option Addr} {f : Str} {S : Store} {H : Hp}
theorem Rl.toE (rl : Rl K T.toTb ω S H) : Rl K (Te T a cls d f).toTb ω S H := Rl.tb (T := T.toTb) (T' := (Te T a cls d f).toTb) rfl (fun _ _ => rfl) rfl rl rl.pinned
theorem Rl.ofE (rl : Rl K (Te T a cls d f).toTb ω S H) : Rl K T.toTb ω S H := Rl.tb (T := (Te T a cls d f).toTb) (T' := T.toTb) rfl (fun _ _ => rfl) rfl rl rl.pinned
theorem Rp.toE {x : D} {v : V} (h : x.flat = true) (r : Rp K T.toTb ω x v) : Rp K (Te T a cls d f).toTb ω x v := Rp.tb (T := T.toTb) (T' := (Te T a cls d f).toTb) rfl (fun _ _ => rfl) x v h r
theorem Rp.ofE {x : D} {v : V} (h : x.flat = true) (r : Rp K (Te T a cls d f).toTb ω x v) : Rp K T.toTb ω x v := Rp.tb (T := (Te T a cls d f).toTb) (T' := T.toTb) rfl (fun _ _ => rfl) x v h r
end
theorem flatSl_get : ∀ {s : Sl} {i : Nat} {d : D}, flatSl s = true → s[i]? = some (some d) → d.flat = true
  | [], _, _, _, e => by simp at e
  | none :: s, 0, _, _, e => by simp at e
  | some x :: s, 0, d, h, e => by
    simp at e
    subst e
    unfold flatSl at h
    rw [Bool.and_eq_true] at h
    exact h.1
  | none :: s, i + 1, d, h, e => flatSl_get (s := s) (i := i) (by unfold flatSl at h; exact h) (by simpa using e)
  | some x :: s, i + 1, d, h, e => flatSl_get (s := s) (i := i) (by unfold flatSl at h; rw [Bool.and_eq_true] at h; exact h.2) (by simpa using e)
theorem Rs.ofE {K : PySem.W.Frag} {T : Tx} {ω : Wd} {a : Addr} {cls : Value} {d : Option Addr} {f : Str} {s : Sl} {σ : L2.St} (h : Rs K (Te T a cls d f).toTb ω s σ) (hf : flatSl s = true) : Rs K T.toTb ω s σ := ⟨h.1, fun i x e => by
  obtain ⟨v, e1, r⟩ := h.2 i x e
  exact ⟨v, e1, r.ofE (flatSl_get hf e)⟩⟩
section
variable {X : Cx} {T : Tx} {W : WX} {p pos : Pos}
theorem gs_tryAs {n i c : Nat} {cs : List Nat} {x nm : Str} {body suite : List Stmt} {b₀ : Stmt} {np pos' : Pos} {tb su : TSt} (hst : X.stack = X.env :: X.outer) (hf : X.env.frame = some X.env.locals) (hN : X.N.Nodup) (hi : X.N[i]? = some nm) (hln : X.env.kindOf nm = some .local)
    (hc : Names X x (.ref (T.cl c))) (tk : Takes X W) (hn : X.N.length = n)
    (hx : ∀ k ∈ cs, PySem.W.exmOne X.K (.ref (T.cl k)) (.ref (T.cl c)) = some (isSub k c))
    (hb : ∀ (W' : WX) (pn : List (Addr × Obj)) (xe : Value → Shared → Prop), Indep W' → Takes (X.tr pn xe) W' → GSs (X.tr pn xe) T W' body tb)
    (hsu : ∀ (a : Addr) (oe : Obj) (cls : Value) (d : Option Addr) (f : Str) (pn : List (Addr × Obj)), Zc cls d oe → (∃ vs, oe.data = .fields vs) → (∃ k, f = T.fld k) → GSs (X.suite a ((a, oe) :: pn)) (Te T a cls d f) Wn (b₀ :: suite) su) :
    GS X T W (.Try body [.ExceptHandler (some (.Name x np)) (some nm) (b₀ :: suite) pos'] [] [] pos) (tTryAs n i cs tb c su) :=
  PS.imp (ps_try_as hst hf hN hi hln hc tk (tb := fun W' => tSr X.K T (Wall n W') tb) (ts := fun a cls d D σ H => ∃ f, (∃ k, f = T.fld k) ∧ tSr X.K (Te T a cls d f) Wn su D σ H) (fun W' pn xe tk' _ => hb (Wall n W') pn xe wall_indep (hn ▸ takes_all tk'))
    (fun a oe cls d pn hz hf' => ⟨fun pins s σ H D I ⟨f, hk, h⟩ => (hsu a oe cls d f pn hz hf' hk).run pins s σ H D I h⟩)) fun D σ H ⟨s, S, ω, rl, rs, q⟩ => by
    refine ⟨s, S, ω, rl, rs, ?_⟩
    unfold tTryAs at q
    cases e : tb s S with
    | none => rw [e] at q; exact q
    | some r =>
      obtain ⟨f, S'⟩ := r
      rw [e] at q
      cases f with
      | nx s1 => exact q
      | ret d => exact q
      | bk s1 => exact q
      | ct s1 => exact q
      | ex x s1 =>
        simp only at q
        by_cases hcs : x.cls ∈ cs ∧ isSub x.cls c = true ∧ flats x.args = true
        · rw [if_pos hcs] at q
          obtain ⟨h1, h2, h3⟩ := hcs
          intro ω' σ' H' cls dd ex rl' rs' er σ2 hl
          refine ⟨isSub x.cls c, by rw [er.1]; exact hx _ h1, fun _ a _ => ?_, fun z => by rw [h2] at z; cases z⟩
          refine ⟨T.fld x.cls, ⟨_, rfl⟩, (List.replicate n none).set i (some (.exc x.cls x.args)), S', ω', rl'.toE, ⟨by simp [hl], fun j dj hj => ?_⟩, ?_⟩
          · rw [List.getElem?_set] at hj
            split at hj
            · rename_i hij
              subst hij
              split at hj
              · cases hj
                refine ⟨.ref a, ?_, ?_⟩
                · rw [List.getElem?_set_self]
                  rw [hl]
                  simp_all
                · unfold Rp
                  refine ⟨rfl, er.1, ?_⟩
                  have r2 := er.2
                  cases ea : x.args with
                  | nil =>
                    rw [ea] at r2
                    exact ⟨[], by unfold Rps; rfl, fun _ => r2, fun w z => by cases z⟩
                  | cons y ys =>
                    cases ys with
                    | cons y2 ys2 => rw [ea] at r2; exact r2.elim
                    | nil =>
                      rw [ea] at r2 h3
                      obtain ⟨d, v, e1, e2, e3⟩ := r2
                      have hy : y.flat = true := by
                        unfold flats at h3
                        rw [Bool.and_eq_true] at h3
                        exact h3.1
                      refine ⟨[v], ?_, (fun z => nomatch z), fun w z => ?_⟩
                      · unfold Rps
                        exact ⟨v, [], rfl, Rp.toE hy e3, by unfold Rps; rfl⟩
                      · cases z
                        exact ⟨d, e1, e2⟩
              · cases hj
            · rw [List.getElem?_replicate] at hj
              split at hj <;> cases hj
          · cases e2 : su ((List.replicate n none).set i (some (.exc x.cls x.args))) S' with
            | none => rw [e2] at q; exact q.elim
            | some r2 =>
              obtain ⟨f2, S2⟩ := r2
              rw [e2] at q
              cases f2 with
              | ret d =>
                simp only at q
                split at q
                · rename_i hfl
                  have q2 := SPg.shift ex q
                  exact fun ω2 H2 v ex2 rl2 r2 => q2 ω2 H2 v ex2 rl2.ofE (r2.ofE hfl)
                · exact q.elim
              | nx s2 =>
                simp only at q
                split at q
                · rename_i hfl
                  have q2 := SPg.shift ex q
                  exact fun ω2 σ2 H2 ex2 rl2 rs2 => q2 ω2 _ H2 ex2 rl2.ofE (rs2.drop i |>.ofE hfl)
                · exact q.elim
              | bk _ => exact q.elim
              | ct _ => exact q.elim
              | ex _ _ => exact q.elim
        · rw [if_neg hcs] at q; exact q.elim
def excB (K : PySem.W.Frag) (C : Addr) : Bool := decide (PySem.W.findIn K (.ref C) "__getattribute__" = some (some (.builtin "BaseException.__getattribute__"))) && (decide (PySem.W.findIn K (.ref C) "__getattr__" = some none) && (decide (PySem.W.subIn K (.ref C) (.type "BaseException") = some true) && (PySem.W.hasDictIn K C && (decide (PySem.W.findIn K (.ref C) "__class__" = some (some (.builtin "object.__class__"))) && (decide (PySem.W.specialIn K (.builtin "object.__class__") "__get__" = some (some (.builtin "getset_descriptor.__get__"))) && (decide (PySem.W.takesIn K (.builtin "object.__class__") = some true) && decide (PySem.W.mroIn K C (.type "object") = some true)))))))
theorem excB_ok {K : PySem.W.Frag} {C : Addr} (h : excB K C = true) : ExcC K C := by
  unfold excB at h
  simp only [Bool.and_eq_true, decide_eq_true_eq] at h
  obtain ⟨h1, h2, h3, h4, h5, h6, h7, h8⟩ := h
  exact ⟨h1, h2, h3, h4, h5, h6, h7, h8⟩
theorem pe_names {x : Str} {c : Value} {v : V} (h : Names X x c) (hr : RelV v c) : PE X (.Name x p) (fun _ H Q => Q v H) := by
  refine ⟨fun pins s σ H Q I q => ?_⟩
  obtain ⟨hg, hdb, h | ⟨h1, h2, h3⟩⟩ := h
  · exact ld_glob I hg h ⟨v, H, I, hr, q⟩ hdb
  · exact ld_blt I hg h1 h2 ⟨v, H, I, hr, q⟩ h3 hdb
theorem cr_isE {a : Addr} {oe : Obj} {cls : Value} {d : Option Addr} {pn : List (Addr × Obj)} (hz : Zc cls d oe) (hf : ∃ vs, oe.data = .fields vs) :
    CallR (X.suite a ((a, oe) :: pn)) (.builtin "isinstance") (fun xs H Q => ∃ D, cls = .ref D ∧ (d = none ∨ ∃ dd fs, d = some dd ∧ H dd = some (.xd fs)) ∧ ExcC X.K D ∧ rIsE X.K D a xs H Q) := by
  intro pins s σ H xs us Q I r h
  obtain ⟨D, rfl, rfl | ⟨dd, fs, rfl, hdd⟩, C, h⟩ := h
  · exact call_isE C hz hf pins s σ H xs us Q I r h
  · obtain ⟨c, cv, b, rfl, hcv, e, q⟩ := h
    obtain ⟨vs, hv⟩ := hf
    match us, r with
    | [u1, u2], .cons r1 (.cons r2 .nil) =>
      obtain rfl : u1 = Value.ref a := r1
      obtain rfl := hcv _ r2
      have hget := (I.pin (a, oe) (List.mem_append_left _ List.mem_cons_self)).1
      obtain ⟨mA, hns, -⟩ : ObjOk X.prog X.w H s.heap dd (.xd fs) := I.hok dd _ hdd
      obtain ⟨od, ho, -⟩ := lookIn_ns hns
      have J : PySem.W.InstAt s.heap a oe D (some od) := ⟨hget, hz.1, by unfold PySem.W.notCls; rw [hv], by rw [hz.2]; exact ho⟩
      have hcl : (PySem.W.clsIn X.K D).isSome = true := by
        obtain ⟨cd, hc, -⟩ := PySem.W.any_some C.hd
        rw [hc]
        rfl
      exact PySem.W.kia_one (PySem.W.kitx_exc hcl C.hg C.hk C.hs C.ha C.hn C.ht C.hm) I.kIn J e (fun z => nomatch z) fun tk => ⟨.bl b, H, I.kept (t' := tk) fun _ _ z => z, rfl, q⟩
theorem ge_isE {cs : List Nat} {c : Nat} {x : Str} {cv : Value} {v : V} {a : Addr} {oe : Obj} {cls : Value} {d : Option Addr} {f : Str} {pn : List (Addr × Obj)} {e : Expr} {ta : Q.TE} {p2 : Pos} (hz : Zc cls d oe) (hf : ∃ vs, oe.data = .fields vs) (hg : Gl X "isinstance") (hm : X.mg "isinstance" = none)
    (hE : ∀ k ∈ cs, ExcC X.K (T.cl k)) (hk : ∀ k ∈ cs, PySem.W.kitOne X.K (.ref (T.cl k)) cv = some (if c = 1000 then true else isSub k c)) (hc : Names X x cv) (hr : RelV v cv) (hu : ∀ u, RelV v u → u = cv) (ha : GE (X.suite a ((a, oe) :: pn)) (Te T a cls d f) Wn e ta)
    (he : starEach [e, .Name x p2] (X.suite a ((a, oe) :: pn)).env = (false, eval e (X.suite a ((a, oe) :: pn)).env) :: starEach [.Name x p2] (X.suite a ((a, oe) :: pn)).env := by rfl)
    (he2 : starEach [.Name x p2] (X.suite a ((a, oe) :: pn)).env = (false, eval (.Name x p2) (X.suite a ((a, oe) :: pn)).env) :: starEach [] (X.suite a ((a, oe) :: pn)).env := by rfl) (hpl : (backTo pos (starEach [.Name x p2] (X.suite a ((a, oe) :: pn)).env)).any (·.1) = false := by rfl) :
    GE (X.suite a ((a, oe) :: pn)) (Te T a cls d f) Wn (.Call (.Name "isinstance" p) [e, .Name x p2] [] pos) (e1 (oIsE cs c) ta) :=
  PE.imp (pe_callB (X := X.suite a ((a, oe) :: pn)) (cr_isE (X := X) hz hf) hg hm (by decide +kernel) (pa_cons ha (pa_cons (pe_names (X := X.suite a ((a, oe) :: pn)) (p := p2) hc hr) pa_nil he2) he) (by decide) (by decide) he hpl) fun σ H Qv ⟨s, S, ω, rl, rs, q⟩ => by
    refine ⟨s, S, ω, rl, rs, (EPg.bind q).mono ?_⟩
    rintro w H1 ⟨ω1, S1, dd, e1, rl1, r1, q1⟩
    have q2 := PQ.of q1
    unfold oIsE at q2
    split at q2
    · rename_i k as
      split at q2
      · exact q2.elim
      · rename_i hlen
        split at q2
        · rename_i hkc
          unfold Rp at r1
          obtain ⟨rfl, ec, ws, r, h1, h2⟩ := r1
          refine ⟨T.cl k, ec, ?_, hE k hkc, v, cv, _, rfl, hu, hk k hkc, q2.now rl1 (Rp.mbl _)⟩
          cases ws with
          | nil => exact .inl (h1 rfl)
          | cons w ws =>
            have hl := r.length
            have : ws = [] := by
              cases ws with
              | nil => rfl
              | cons _ _ => simp at hl hlen; omega
            subst this
            obtain ⟨dd, e1, e2⟩ := h2 w rfl
            exact .inr ⟨dd, _, e1, rl1.sub _ _ e2⟩
        · exact q2.elim
    · exact q2.elim
end
end Q
namespace Q
open PySem PySem.Spec PyProof.Rows L2
section
variable {X : Cx} {T : Tx}
def rCntF (K : PySem.W.Frag) : V → List V → Hp → VK → Prop := fun x xs H Q => ∃ (a : Addr) (ys : List V) (y : V), x = .ref a ∧ xs = [y] ∧ SqL K H a ys ∧ flatV y = true ∧ ys.all flatV = true ∧ Q (.int (ys.countP fun z => eqV z y : Nat)) H
theorem count_eqU {y : V} : ∀ {ys : List V} {us : List Value}, Vals ys us → ys.all flatV = true → us.countP (eqU y) = ys.countP fun z => eqV z y
  | _, _, .nil, _ => rfl
  | _, _, .cons r rs, h => by
    simp only [List.all_cons, Bool.and_eq_true] at h
    rw [List.countP_cons, List.countP_cons, eqU_of r h.1, count_eqU rs h.2]
theorem mt_lcountF : MtR X "list.count" (rCntF X.K) := by
  intro pins s σ H x xs v us Q I rx rxs h
  obtain ⟨a, ys, y, rfl, rfl, hs, fy, fys, q⟩ := h
  cases rx
  cases rxs with
  | cons ry rt =>
    rename_i uy ut
    cases rt
    obtain ⟨its, rv, ⟨⟨cls, dd, data, sl⟩, n, ho, hc, hdn, hd⟩, hlen⟩ := I.list hs
    simp only at hc hd
    subst hc hd
    refine call_meets PySem.F.slot_list_count ⟨_, ho, rfl⟩ PySem.F.entry_list_count (PySem.F.args_list_count_2 _ _)
      (SeqAt.list_countAt a its.toArray n dd sl uy (eqU y)) ⟨ho, fun u' hu' => mem_eqAt ry fy rv fys u' (by simpa using hu'), ?_⟩
    refine ⟨.int (ys.countP fun z => eqV z y : Nat), H, I.tok _, ⟨s.toks, ?_⟩, q⟩
    show Value.int ((its.toArray.toList.countP (eqU y) : Nat) : Int) s.toks = _
    rw [show its.toArray.toList = its from rfl, count_eqU rv fys]
theorem flatsV {K : PySem.W.Frag} {T : Tb} {ω : Wd} : ∀ {ds : List D} {vs : List V}, ds.all flatD = true → Rps K T ω ds vs → vs.all flatV = true ∧ ∀ (e : D) (w : V), flatD e = true → Rp K T ω e w → vs.map (fun z => eqV z w) = ds.map fun z => eqF z e
  | [], vs, _, r => by
    unfold Rps at r
    subst r
    exact ⟨rfl, fun _ _ _ _ => rfl⟩
  | d :: ds, vs, h, r => by
    unfold Rps at r
    obtain ⟨v, ws, rfl, r1, r2⟩ := r
    simp only [List.all_cons, Bool.and_eq_true] at h
    obtain ⟨f1, f2⟩ := flat_rel h.1 r1
    obtain ⟨g1, g2⟩ := flatsV h.2 r2
    refine ⟨by simp [f1, g1], fun e w he re => ?_⟩
    rw [List.map_cons, List.map_cons, f2 e w he re, g2 e w he re]
theorem countP_map' {α : Type} (f : α → Bool) (l : List α) : l.countP f = (l.map f).countP id := by simp [List.countP_map, Function.comp_def]
theorem ok_countL {K : PySem.W.Frag} : OkN K T (fun xs H Qv => ∃ x ys, xs = x :: ys ∧ rCntF K x ys H Qv) oCountL := by
  intro ω S H xs us Qv rl r q
  unfold oCountL at q
  split at q
  · rename_i l d
    obtain ⟨v, w, rfl, r1, r2⟩ := r.two
    split at q
    · rename_i ds g
      split at q
      · rename_i hf
        rw [Bool.and_eq_true] at hf
        obtain ⟨a, vs, rfl, h1, r3⟩ := Rp.itemsL rl r1 g
        obtain ⟨g1, g2⟩ := flatsV hf.2 r3
        have e := g2 d w hf.1 r2
        refine ⟨_, _, rfl, a, vs, w, rfl, rfl, SqL.of h1, (flat_rel hf.1 r2).1, g1, ?_⟩
        rw [countP_map' (fun z => eqV z w), e, ← countP_map']
        exact q.now rl (Rp.mint _)
      · exact q.elim
    · exact q.elim
  · exact q.elim
theorem ok_indexL {K : PySem.W.Frag} : OkN K T (fun xs H Qv => ∃ x ys, xs = x :: ys ∧ rIndex K x ys H Qv) oIndexL := by
  intro ω S H xs us Qv rl r q
  unfold oIndexL at q
  split at q
  · rename_i l d
    obtain ⟨v, w, rfl, r1, r2⟩ := r.two
    split at q
    · rename_i ds g
      split at q
      · rename_i hf
        rw [Bool.and_eq_true] at hf
        split at q
        · rename_i j hj
          obtain ⟨a, vs, rfl, h1, r3⟩ := Rp.itemsL rl r1 g
          obtain ⟨g1, g2⟩ := flatsV hf.2 r3
          have e := g2 d w hf.1 r2
          rw [List.findIdx?_eq_some_iff_getElem] at hj
          obtain ⟨hjl, hje, hjm⟩ := hj
          have at_ : ∀ m (hm : m < ds.length), ∃ z, vs[m]? = some z ∧ eqV z w = eqF ds[m] d := fun m hm => by
            have e2 := congrArg (fun l => l[m]?) e
            simp only [List.getElem?_map, List.getElem?_eq_getElem hm, Option.map_some] at e2
            cases hz : vs[m]? with
            | none => rw [hz] at e2; cases e2
            | some z => rw [hz] at e2; exact ⟨z, rfl, by simpa using e2⟩
          obtain ⟨z, hz, ez⟩ := at_ j hjl
          refine ⟨_, _, rfl, a, vs, w, j, z, rfl, rfl, SqL.of h1, (flat_rel hf.1 r2).1, g1, hz, by rw [ez]; exact hje, fun m z' hm hz' => ?_, q.now rl (Rp.mint _)⟩
          obtain ⟨z2, hz2, ez2⟩ := at_ m (by omega)
          rw [hz'] at hz2
          cases hz2
          rw [ez2]
          simpa using hjm m hm
        · exact q.elim
      · exact q.elim
    · exact q.elim
  · exact q.elim
end
end Q
set_option maxHeartbeats 1000000
namespace Q
open PySem PySem.Spec PyProof.Rows L2
def oexIn (K : PySem.W.Frag) (C : Addr) : Bool := match K.lookup C with
  | some ⟨.type "type", _, .cls cd, sl⟩ => match cd.mro, sl.toList with
    | .ref C' :: bm, [_, _, _, _, some (.builtin n), _] => (C' == C) && ((n == "ValueError.__new__") && (!cd.hasDel && (cd.hasDict && PySem.HandSPX.refsVE bm)))
    | _, _ => false
  | _ => false
theorem oexIn_ok {K : PySem.W.Frag} {C : Addr} (q : oexIn K C = true) : ∃ nm q N bs bm sn sub ab col dd k0 k1 k2 k3 k5, K.lookup C = some (excClassObj nm q C N bs bm true sn sub ab col dd k0 k1 k2 k3 k5 "ValueError.__new__") ∧ PySem.HandSPX.refsVE bm = true := by
  unfold oexIn at q
  split at q
  · rename_i dd cd sl ho
    split at q
    · rename_i C' bm k0 k1 k2 k3 n k5 hm hs
      simp only [Bool.and_eq_true, beq_iff_eq, Bool.not_eq_true'] at q
      obtain ⟨q1, q2, q3, q4, q5⟩ := q
      subst q1 q2
      cases cd with
      | mk nm bs mro ns qn hd sn sub ab col del =>
        simp only at hm q3 q4
        subst hm q3 q4
        have e : sl = #[k0, k1, k2, k3, some (.builtin "ValueError.__new__"), k5] := by
          apply Array.toList_inj.mp
          exact hs
        subst e
        exact ⟨nm, qn, ns, bs, bm, sn, sub, ab, col, dd, k0, k1, k2, k3, k5, ho, q5⟩
    · cases q
  · cases q
structure OxF (K : PySem.W.Frag) (C : Addr) (f : Str) (fI : Addr) : Prop where
  ox : OexC K C
  no : PySem.W.findIn K (.ref C) f = some none
  iC : PySem.W.findIn K (.ref C) "__init__" = some (some (.ref fI))
  tI : PySem.W.typeIn K (.ref fI) = some (.type "function")
  xf : XfC K C
def oxB (K : PySem.W.Frag) (C : Addr) (f : Str) (fI : Addr) : Bool := oexIn K C && (decide (PySem.W.findIn K (.ref C) "__setattr__" = some (some (.builtin "object.__setattr__"))) && (decide (PySem.W.subIn K (.ref C) (.type "BaseException") = some true) && (decide (PySem.W.typeIn K (.ref C) = some (.type "type")) &&
  (PySem.W.keepIn K (.ref C) && (decide (PySem.W.findIn K (.ref C) f = some none) && (decide (PySem.W.findIn K (.ref C) "__init__" = some (some (.ref fI))) && (decide (PySem.W.typeIn K (.ref fI) = some (.type "function")) && xfB K C)))))))
theorem oxB_ok {K : PySem.W.Frag} {C : Addr} {f : Str} {fI : Addr} (h : oxB K C f fI = true) : OxF K C f fI := by
  unfold oxB at h
  simp only [Bool.and_eq_true, decide_eq_true_eq] at h
  obtain ⟨h1, h2, h3, h4, h5, h6, h7, h8, h9⟩ := h
  exact ⟨⟨oexIn_ok h1, h2, h3, h4, h5⟩, h6, h7, h8, xfB_ok h9⟩
def initSp (K : PySem.W.Frag) (f : Str) : Sp := fun vs H Q _ => ∃ (a : Addr) (y : V) (C : Addr), vs = [.ref a, y] ∧ OexC K C ∧ PySem.W.findIn K (.ref C) f = some none ∧ H a = some (exo a C none) ∧ ∀ dx, H dx = none → dx ≠ a → Q .non (upd (upd H dx (exd dx [(f, y)])) a (exo a C (some dx)))
theorem init_ok {P : Program} {w : World} {K : PySem.W.Frag} {mg : Str → Option Value} {base : Heap} {CX : CXT} {x qual sf ar f : Str} {params : Arguments} {scope : Scope} {fI : Addr} {fd : FuncData} {p1 p2 p3 pos : Pos} {k : Nat}
    (F : FunD K x qual params [.Assign [.Attribute (.Name sf p1) f p3] (.Name ar p2) pos] scope [] [] fI fd) (S : FnScope [sf, ar] [sf, ar] scope) (v0 : Vis scope sf) (v1 : Vis scope ar)
    (d0 : (sf == ("__debug__" : Str)) = false := by decide) (d1 : (ar == ("__debug__" : Str)) = false := by decide) (c0 : (sf == ("__classdict__" : Str)) = false := by decide) (c1 : (ar == ("__classdict__" : Str)) = false := by decide)
    (hsw : ∀ env, swapsWith (.Name ar p2) (some (.Attribute (.Name sf p1) f p3)) pos.line env = pure false := by intro _; rfl) :
    FnOk P w K mg base CX (k + 1) fI fd [sf, ar] (initSp K f) :=
  F.ok S (fun vs H Q E ⟨a, y, C, e, _⟩ => by rw [e]; rfl) fun cdv A outer s H vs Q E hr ⟨a, y, C, e, hC, hno, hH, q⟩ => by
    subst e
    exact ⟨_, pss_one (ps_ost (pe_var (i := 0) rfl v0 d0 c0) (pe_var (i := 1) rfl v1 d1 c1) (hsw _)), ⟨y, rfl, .ref a, rfl, a, C, rfl, hC, hno, .inl ⟨hH, fun dx h1 h2 => q dx h1 h2⟩⟩⟩
section
variable {X : Cx} {T : Tx} {W : WX} {p pos : Pos}
theorem gs_raise1 {x f sf ar : Str} {fI : Addr} {fd : FuncData} {c k : Nat} {e : Expr} {ta : Q.TE} {pos' : Pos} (Ox : OxF X.K (T.cl c) f fI) (hf : T.fld c = f) (F1 : FnOk X.prog X.w X.K X.mg X.base (L2.CX X.prog X.w) k fI fd [sf, ar] (initSp X.K f)) (hr : Room (k + 1) X.A)
    (hb : L2.Binds X.K fd [sf, ar] []) (hc : X.calm = true) (tk : Takes X W) (hg : Gl X x) (hm : X.mg x = some (.ref (T.cl c))) (ha : GE X T W e ta)
    (hdb : (x == ("__debug__" : Str)) = false := by decide) (he : starEach [e] X.env = (false, eval e X.env) :: starEach [] X.env := by rfl) :
    GS X T W (.Raise (some (.Call (.Name x p) [e] [] pos)) none pos') (tRaise1 true c ta) :=
  PS.imp (ps_raise hc tk (pmk_oex (CX := L2.CX X.prog X.w) Ox.ox Ox.iC Ox.tI F1 hr hb .nil (passes_call (E := fun _ _ _ => False) tk fun _ _ _ _ h => h.elim) hg hm (pa_cons ha pa_nil he) hdb he)) fun D σ H ⟨s, S, ω, rl, rs, q⟩ => by
    refine ⟨s, S, ω, rl, rs, ?_⟩
    unfold tRaise1 at q
    rw [if_pos rfl] at q
    cases e0 : ta s S with
    | err => rw [e0] at q; exact q.elim
    | ex y S' => rw [e0] at q; exact q.elim
    | ok d S' =>
      rw [e0] at q
      simp only at q
      split at q
      · rename_i hfl
        intro ω1 H1 v ex rl1 r1
        refine ⟨by simp, fun a hn => ⟨a, v, T.cl c, rfl, Ox.ox, Ox.no, upd_same, fun dx hdx hda => ?_⟩⟩
        rw [upd_ne hda] at hdx
        have had : a ≠ dx := fun z => hda z.symm
        refine ⟨rfl, dx, [(f, v)], upd_same, by rw [upd_ne hda, upd_same], hdx, ?_⟩
        have eH : upd (del (upd (upd (upd H1 a (exo a (T.cl c) none)) dx (exd dx [(f, v)])) a (exo a (T.cl c) (some dx))) a) dx (.xd [(f, v)]) = upd H1 dx (.xd [(f, v)]) := by
          funext b
          unfold upd del
          by_cases h1 : b = dx
          · rw [if_pos h1, if_pos h1]
          · rw [if_neg h1, if_neg h1]
            by_cases h2 : b = a
            · rw [if_pos h2, h2, hn]
            · rw [if_neg h2]
              simp only [if_neg h2, if_neg h1]
        rw [eH]
        obtain ⟨ω2, ex2, rl2, hF⟩ := Rl.laid rl1 hdx (.xd [(f, v)])
        exact q ω2 σ _ (.ref (T.cl c)) (some dx) (ex.trans ex2) rl2 ((rs.ext ex).ext ex2) ⟨rfl, dx, v, rfl, by rw [hf]; exact hF, r1.ext ex2⟩
      · exact q.elim
theorem gs_errS {st : Stmt} : GS X T W st (fun _ _ => none) := PS.imp (t := fun _ _ _ => False) ⟨fun pins s σ H D I h => h.elim⟩ fun D σ H ⟨s, S, ω, rl, rs, q⟩ => q
theorem gs_raise1C {x f sf ar : Str} {fI : Addr} {fd : FuncData} {c k : Nat} {Pr : Prog} {e : Expr} {ta : Q.TE} {pos' : Pos} (h0 : Pr 999999 = none) (Ox : OxF X.K (T.cl c) f fI) (hf : T.fld c = f) (F1 : ∀ j, FnOk X.prog X.w X.K X.mg X.base (L2.CX X.prog X.w) (j + 1) fI fd [sf, ar] (initSp X.K f)) (hr : Room k X.A)
    (hb : L2.Binds X.K fd [sf, ar] []) (hc : X.calm = true) (tk : Takes X W) (hg : Gl X x) (hm : X.mg x = some (.ref (T.cl c))) (ha : GE X T W e ta)
    (hdb : (x == ("__debug__" : Str)) = false := by decide) (he : starEach [e] X.env = (false, eval e X.env) :: starEach [] X.env := by rfl) :
    GS X T W (.Raise (some (.Call (.Name x p) [e] [] pos)) none pos') (tRaise1 (deep (callN Pr k)) c ta) := by
  have ez : tRaise1 false c ta = fun _ _ => none := by
    funext s S
    rfl
  match k, hr with
  | 0, _ => rw [deep_zero, ez]; exact gs_errS
  | 1, _ => rw [deep_one h0, ez]; exact gs_errS
  | j + 2, hr => rw [deep_low h0]; exact gs_raise1 Ox hf (F1 j) hr hb hc tk hg hm ha hdb he
def xfsB (K : PySem.W.Frag) (f : Str) (C : Addr) : Bool := xfB K C && decide (PySem.W.findIn K (.ref C) f = some none)
theorem ge_fld {cs : List Nat} {f : Str} {a : Addr} {oe : Obj} {cls : Value} {d : Option Addr} {fe : Str} {pn : List (Addr × Obj)} {e : Expr} {ta : Q.TE} (hz : Zc cls d oe) (hf : ∃ vs, oe.data = .fields vs) (hfe : ∃ k, fe = T.fld k) (hT : ∀ k, T.fld k = f)
    (hx : ∀ k ∈ cs, XfC X.K (T.cl k) ∧ PySem.W.findIn X.K (.ref (T.cl k)) f = some none) (ha : GE (X.suite a ((a, oe) :: pn)) (Te T a cls d fe) Wn e ta)
    (hb : attributeBase e f (X.suite a ((a, oe) :: pn)).env (eval e (X.suite a ((a, oe) :: pn)).env) = eval e (X.suite a ((a, oe) :: pn)).env := by rfl) :
    GE (X.suite a ((a, oe) :: pn)) (Te T a cls d fe) Wn (.Attribute e f pos) (e1 (oFld cs) ta) := by
  obtain ⟨k0, hk0⟩ := hfe
  rw [hT] at hk0
  subst hk0
  refine ⟨fun pins s σ H Qv I h => ?_⟩
  obtain ⟨s0, S, ω, rl, rs, q⟩ := h
  by_cases hC : ∃ k, k ∈ cs ∧ cls = .ref (T.cl k)
  · obtain ⟨k, hk, hcl⟩ := hC
    refine (pe_xf (X := X) (C := T.cl k) (hx k hk).1 (hx k hk).2 hz hf ha hb).run pins s σ H Qv I ⟨s0, S, ω, rl, rs, (EPg.bind q).mono ?_⟩
    rintro v H1 ⟨ω1, S1, dd, e1, rl1, r1, q1⟩
    have q2 := PQ.of q1
    unfold oFld at q2
    split at q2
    · rename_i k2 w
      split at q2
      · unfold Rp at r1
        obtain ⟨rfl, ec, ws, r, h1, h2⟩ := r1
        obtain ⟨w', rfl, rw'⟩ := r.one
        obtain ⟨d2, e2, e3⟩ := h2 w' rfl
        refine ⟨rfl, hcl, d2, _, w', e2, rl1.sub _ _ e3, ?_, q2.now rl1 rw'⟩
        show List.lookup fe [(fe, w')] = some w'
        simp
      · exact q2.elim
    · exact q2.elim
  · refine attr_of hb (thn (ha.run pins s σ H (fun _ _ => False) I ⟨s0, S, ω, rl, rs, (EPg.bind q).mono ?_⟩) fun u s1 ⟨_, _, _, _, z⟩ => z.elim)
    rintro v H1 ⟨ω1, S1, dd, e1, rl1, r1, q1⟩
    have q2 := PQ.of q1
    unfold oFld at q2
    split at q2
    · rename_i k2 w
      split at q2
      · rename_i hk2
        unfold Rp at r1
        exact hC ⟨k2, hk2, r1.2.1⟩
      · exact q2.elim
    · exact q2.elim
end
end Q
set_option maxHeartbeats 1000000
namespace Q
open PySem PySem.Spec PyProof.Rows L2
theorem reads_strs {h : Heap} : ∀ {xs : List Str} {us : List Value}, Vals (xs.map V.str) us → ReadsAll h us (xs.map PyData.str) []
  | [], _, .nil => .nil
  | x :: xs, _, .cons r rs => by
    obtain ⟨t, rfl⟩ := r
    exact .cons (.str x t) (reads_strs rs)
theorem minD_strs (x : Str) (xs : List Str) : PySem.W.minD (.str x) (xs.map .str) = .str (minS x xs) := by
  unfold PySem.W.minD minS
  induction xs generalizing x with
  | nil => rfl
  | cons y ys ih =>
    rw [List.map_cons, List.foldl_cons, List.foldl_cons, PySem.W.dataLt_str, ← ih]
    split <;> rfl
theorem alike_strs (xs : List Str) : PySem.W.AlikeAll (xs.map .str) := by
  constructor
  · intro a ha b hb
    obtain ⟨x, -, rfl⟩ := List.mem_map.mp ha
    obtain ⟨y, -, rfl⟩ := List.mem_map.mp hb
    rfl
  · intro a ha
    obtain ⟨x, -, rfl⟩ := List.mem_map.mp ha
    exact fun z => nomatch z
theorem depth_strs : ∀ xs : List Str, PyData.depthAll (xs.map .str) = 0
  | [] => rfl
  | x :: xs => by simp [PyData.depthAll, PyData.depth, depth_strs xs]
def rMinS (K : PySem.W.Frag) : List V → Hp → VK → Prop := fun vs H Q => ∃ (a : Addr) (x : Str) (xs : List Str), vs = [.ref a] ∧ SqL K H a ((x :: xs).map V.str) ∧ Q (.str (minS x xs)) H
section
variable {X : Cx} {T : Tx} {W : WX} {p pos : Pos}
theorem cr_minS (hc : X.calm = true) (hu : X.A.units + 64 < cLine) : CallR X (.builtin "min") (rMinS X.K) := by
  intro pins s σ H vs us Q I r h
  obtain ⟨a, x, xs, rfl, hs, q⟩ := h
  obtain ⟨its, rv, hl, -⟩ := I.list hs
  rw [Vals.ref1 r]
  have rd : ReadsAll s.heap its.toArray.toList ((x :: xs).map PyData.str) [] := reads_strs rv
  refine PySem.W.min_list_data (I.ok.hd hc) hl.isList rd (alike_strs (x :: xs)) (by have := depth_strs (x :: xs); rw [List.map_cons] at this; rw [this]; omega) fun i v h' tk bs hv r' hk => ?_
  rw [minD_strs] at r'
  cases r'
  exact ⟨.str (minS x xs), H, I.kept hk, ⟨_, rfl⟩, q⟩
theorem strs_V {K : PySem.W.Frag} {T : Tb} {ω : Wd} : ∀ {ds : List D} {vs : List V} {ss : List Str}, strsOf ds = some ss → Rps K T ω ds vs → vs = ss.map V.str
  | [], vs, ss, h, r => by
    cases h
    unfold Rps at r
    exact r
  | d :: ds, vs, ss, h, r => by
    cases d <;> try (cases h; done)
    rename_i z
    unfold strsOf at h
    cases e : strsOf ds with
    | none => rw [e] at h; cases h
    | some ts =>
      rw [e] at h
      cases h
      unfold Rps at r
      obtain ⟨v, ws, rfl, r1, r2⟩ := r
      rw [r1.str, strs_V e r2]
      rfl
theorem ok_minS {K : PySem.W.Frag} : OkN K T (rMinS K) oMinS := by
  intro ω S H xs us Qv rl r q
  unfold oMinS at q
  split at q
  · rename_i d
    obtain ⟨v, rfl, r1⟩ := r.one
    split at q
    · rename_i ds g
      split at q
      · rename_i x xs hx
        obtain ⟨a, vs, rfl, h1, r3⟩ := Rp.itemsL rl r1 g
        have e := strs_V hx r3
        subst e
        exact ⟨a, x, xs, rfl, SqL.of h1, q.now rl (Rp.mstr _)⟩
      · exact q.elim
    · exact q.elim
  · exact q.elim
theorem ok_sindex {K : PySem.W.Frag} : OkN K T (fun xs H Qv => ∃ x ys, xs = x :: ys ∧ (fun x xs H Q => ∃ a b i rest, x = V.str a ∧ xs = [V.str b] ∧ Builtin.Str.occurrences a b 0 a.length 1 = i :: rest ∧ Q (V.int (i : Nat)) H) x ys H Qv) oSIndex := by
  intro ω S H xs us Qv rl r q
  unfold oSIndex at q
  split at q
  · obtain ⟨v, w, rfl, r1, r2⟩ := r.two
    split at q
    · rename_i i rest ho
      exact ⟨_, _, rfl, _, _, i, rest, r1.str, by rw [r2.str], ho, q.now rl (Rp.mint _)⟩
    · exact q.elim
  · exact q.elim
theorem ge_sindex {a b : Expr} {ta tb : Q.TE} {apos : Pos} (ho : GE X T W a ta) (he : GE X T W b tb) (hs : starEach [b] X.env = [(false, eval b X.env)] := by rfl) (hbase : attributeBase a "index" X.env (eval a X.env) = eval a X.env := by rfl) (hline : (apos.endLine == pos.line) = true := by rfl) :
    GE X T W (.Call (.Attribute a "index" apos) [b] [] pos) (eM isStrD oSIndex ta [tb]) := ge_mstr PySem.F.slot_str_index PySem.F.type_str_index mt_sindex ok_sindex ho he hs hbase hline
theorem eqS_ok {K : PySem.W.Frag} {T : Tb} {ω : Wd} {x y : D} {u v : V} {b : Bool} (rx : Rp K T ω x u) (ry : Rp K T ω y v) (e : eqS x y = some b) : scal u v = true ∧ b = decide (u = v) := by
  unfold eqS at e
  split at e
  · cases e
    rw [rx.int, ry.int]
    exact ⟨rfl, by simp⟩
  · cases e
    rw [rx.str, ry.str]
    exact ⟨rfl, by simp⟩
  · cases e
    rw [rx.bl, ry.bl]
    exact ⟨rfl, by simp⟩
  · cases e
theorem ok_eqS {K : PySem.W.Frag} : Ok2 K T rEq oEqS := by
  intro ω S H x y u v Qv rl rx ry q
  unfold oEqS at q
  split at q
  · rename_i b hb
    obtain ⟨h1, h2⟩ := eqS_ok rx ry hb
    exact ⟨h1, by rw [← h2]; exact q.now rl (Rp.mbl _)⟩
  · exact q.elim
theorem ok_neS {K : PySem.W.Frag} : Ok2 K T rNe oNeS := by
  intro ω S H x y u v Qv rl rx ry q
  unfold oNeS at q
  split at q
  · rename_i b hb
    obtain ⟨h1, h2⟩ := eqS_ok rx ry hb
    exact ⟨h1, by rw [← h2]; exact q.now rl (Rp.mbl _)⟩
  · exact q.elim
end
end Q
set_option maxHeartbeats 1000000
namespace Q
open PySem PySem.Spec PyProof.Rows L2
theorem bt_len : bootBuiltins ("len" : Str) = some (.builtin "len") := by decide +kernel
theorem bt_abs : bootBuiltins ("abs" : Str) = some (.builtin "abs") := by decide +kernel
theorem bt_max : bootBuiltins ("max" : Str) = some (.builtin "max") := by decide +kernel
theorem bt_min : bootBuiltins ("min" : Str) = some (.builtin "min") := by decide +kernel
theorem bt_all : bootBuiltins ("all" : Str) = some (.builtin "all") := by decide +kernel
theorem bt_any : bootBuiltins ("any" : Str) = some (.builtin "any") := by decide +kernel
theorem bt_sum : bootBuiltins ("sum" : Str) = some (.builtin "sum") := by decide +kernel
theorem bt_sorted : bootBuiltins ("sorted" : Str) = some (.builtin "sorted") := by decide +kernel
theorem bt_repr : bootBuiltins ("repr" : Str) = some (.builtin "repr") := by decide +kernel
theorem bt_int : bootBuiltins ("int" : Str) = some (.type "int") := by decide +kernel
theorem bt_str : bootBuiltins ("str" : Str) = some (.type "str") := by decide +kernel
theorem bt_bool : bootBuiltins ("bool" : Str) = some (.type "bool") := by decide +kernel
theorem bt_list : bootBuiltins ("list" : Str) = some (.type "list") := by decide +kernel
theorem bt_tuple : bootBuiltins ("tuple" : Str) = some (.type "tuple") := by decide +kernel
section
variable {X : Cx} {T : Tx} {W : WX} {pos : Pos}
theorem ge_cint {x : Str} {i : Int} (hg : Gl X x) (h : ∃ t, X.mg x = some (.int i t)) (hd : (x == ("__debug__" : Str)) = false := by decide) : GE X T W (.Name x pos) (eC (.int i)) := by
  obtain ⟨t, e⟩ := h
  exact ge_gint hg e ⟨t, rfl⟩ hd
theorem ge_cstr {x z : Str} (hg : Gl X x) (h : ∃ t, X.mg x = some (.str z t)) (hd : (x == ("__debug__" : Str)) = false := by decide) : GE X T W (.Name x pos) (eC (.str z)) := by
  obtain ⟨t, e⟩ := h
  exact ge_gstr hg e ⟨t, rfl⟩ hd
theorem ge_ctup {x : Str} {ds : List D} {vs : List V} (hg : Gl X x) (h : ∃ a, X.mg x = some (.ref a) ∧ ∀ H, SqT X.K H a vs) (r : ∀ ω, Rps X.K T.toTb ω ds vs := by intro ω; repeat (first | exact Rps.nil | (refine Rps.cons (Rp.mint _) ?_)))
    (hd : (x == ("__debug__" : Str)) = false := by decide) : GE X T W (.Name x pos) (eC (.tup ds)) := by
  obtain ⟨a, e, q⟩ := h
  exact ge_gtup hg e q r hd
end
abbrev AlQ : Type := He.AlD × Bool
def obsQ (n : Nat) (fa : List He.Fa) (fn : List He.DefD) (ex : PySem.W.Frag → Bool) (g : Addr → Option Obj) : AlQ := (He.obsDG n fa fn g, ex (He.frG g (He.asD g n)))
def hookQ (n : Nat) (fa : List He.Fa) (fn : List He.DefD) (ex : PySem.W.Frag → Bool) : PySem.W.Hook where
  α := AlQ
  obs := fun s => obsQ n fa fn ex s.heap.get?
  val := fun _ => (He.valD fn, true)
  says := fun _ h => ∃ K : PySem.W.Frag, K.In h ∧ He.SaysD fa fn K ∧ ex K = true
  of := fun _ _ e => by
    have e1 := congrArg (fun z : AlQ => z.1) e
    have e2 := congrArg (fun z : AlQ => z.2) e
    exact ⟨_, He.frG_in, e1, e2⟩
  keeps := fun _ _ _ ⟨K, hK, c⟩ k => ⟨K, PySem.W.Frag.In.keeps hK k, c⟩
theorem obsQ_eq {n : Nat} {fa : List He.Fa} {fn : List He.DefD} {ex : PySem.W.Frag → Bool} {g : Addr → Option Obj} {s : Shared} (h : ∀ a, g a = s.heap.get? a) : obsQ n fa fn ex g = (hookQ n fa fn ex).obs s := by
  obtain rfl : g = s.heap.get? := funext h
  rfl
def CXe (P : Program) : CXT := fun o H s E e s' => ∃ w, L2.CX P w o H s E e s'
theorem CXe.none {P : Program} (H : Hp) (s : Shared) (e : Value) (s' : Shared) (h : CXe P [] H s (fun _ _ _ => False) e s') : False := by
  obtain ⟨w, _, _, _, _, _, _, _, _, _, _, _, _, z⟩ := h
  exact z
theorem FnOk.toEx {P : Program} {w : World} {K : PySem.W.Frag} {mg : Str → Option Value} {base : Heap} {k : Nat} {f : Addr} {fd : FuncData} {ps : List Str} {sp : Sp} (F : FnOk P w K mg base (L2.CX P w) k f fd ps sp) : FnOk P w K mg base (CXe P) k f fd ps sp :=
  ⟨F.len, fun A outer s H args us vs Qv E hr he hb hv hs => codeAny_mono (F.run A outer s H args us vs Qv E hr he hb hv hs) fun r s' h => by
    cases r with
    | ok f => cases f <;> exact h
    | error e => exact ⟨w, h⟩⟩
def noTb (H : Hp) : Hp := fun a => match H a with
  | some (.tbl _) => none
  | some (.ext _) => none
  | o => o
theorem noTb_of {H : Hp} {a : Addr} {o : HO} (h : H a = some o) (ho : ∀ ps, o ≠ .tbl ps) (hx : ∀ φ, o ≠ .ext φ) : noTb H a = some o := by
  unfold noTb
  rw [h]
  cases o <;> first | rfl | exact absurd rfl (ho _) | exact absurd rfl (hx _)
theorem noTb_to {H : Hp} {a : Addr} {o : HO} (h : noTb H a = some o) : H a = some o := by
  unfold noTb at h
  cases e : H a with
  | none => rw [e] at h; cases h
  | some u => rw [e] at h; cases u <;> first | exact h | cases h
theorem noTb_ne {H : Hp} {a : Addr} {φ : Heap → Prop} : noTb H a ≠ some (.ext φ) := fun h => by
  have h2 := noTb_to h
  unfold noTb at h
  rw [h2] at h
  cases h
theorem noTb_nt {H : Hp} {a : Addr} {ps : Array Value} : noTb H a ≠ some (.tbl ps) := fun h => by
  have h2 := noTb_to h
  unfold noTb at h
  rw [h2] at h
  cases h
theorem start_ok {K : PySem.W.Frag} {T : Tx} {Pr : Prog} {k id : Nat} {H : Hp} {a : Addr} {ns : List Int} (hS : SqL K H a (ns.map V.int)) (h : ∃ S, callN Pr k id [.src ns] ⟨[], []⟩ = .ok (.bl true) S) (hT : LamX.Tabs T.tabs H := by intro p hp; cases hp) (hP : T.pin = [] := by rfl) :
    spOf K T Pr k id [.ref a] H (fun v _ => v = .bl true) (fun _ _ _ => False) := by
  obtain ⟨S, e⟩ := h
  have hS' : SqL K (noTb H) a (ns.map V.int) := by
    rcases hS with (h | ⟨o, h⟩) | h
    · exact .inl (.inl (noTb_of h (fun ps z => by cases z) fun ps z => by cases z))
    · exact .inl (.inr ⟨o, noTb_of h (fun ps z => by cases z) fun ps z => by cases z⟩)
    · exact .inr h
  refine ⟨[.src ns], ⟨[], []⟩, ⟨noTb H, fun _ => 0, 0, fun _ => 0, 0⟩, ⟨⟨fun b o h => noTb_to h, rfl, fun k ds h => ?_, fun j k ds es h => ?_, rfl, fun k v h => ?_, fun j k h => absurd h (Nat.not_lt_zero _), fun b ps => noTb_nt, ⟨hT, fun I _ f ⟨c, e⟩ => absurd e (by unfold LamO; exact noTb_ne)⟩⟩, fun p hp => by rw [hP] at hp; cases hp⟩, Rps.cons (by unfold Rp; exact ⟨a, rfl, hS'⟩) Rps.nil, ?_⟩
  · simp [Store.get] at h
  · simp [Store.get] at h
  · simp at h
  · rw [e]
    exact fun ω' H' v _ _ r => r.bl
def ErrN : Nat → Str
  | 0 => "DutyError" | 1 => "BadForm" | 2 => "BadMost" | 3 => "BadNumber" | 4 => "BadRow" | 5 => "BadRule" | 6 => "BadSign" | 7 => "BadStep" | 8 => "NoDuty" | 9 => "NoLine"
  | 10 => "TooLong" | 11 => "NotEven" | 12 => "NotEvenRound" | 13 => "TooMany" | _ => "Uneven"
def ecB (K : PySem.W.Frag) (C : Addr) : Bool := PySem.W.keepIn K (.ref C) && (PySem.W.excIn K C VEt "ValueError.__new__" && (decide (PySem.W.subIn K (.ref C) (.type "BaseException") = some true) && decide (PySem.W.typeIn K (.ref C) = some (.type "type"))))
theorem ecB_ok {K : PySem.W.Frag} {mg : Str → Option Value} {x : Str} {C : Addr} (g : mg x = some (.ref C)) (h : ecB K C = true) : EC K mg x C := by
  obtain ⟨h1, h2⟩ := He.ba h
  obtain ⟨h3, h4⟩ := He.ba h2
  obtain ⟨h5, h6⟩ := He.ba h4
  exact ⟨g, h1, h3, of_decide_eq_true h5, of_decide_eq_true h6⟩
def exmB (K : PySem.W.Frag) (cs ds : List Nat) : Bool := cs.all fun c => ds.all fun d => decide (PySem.W.exmOne K (.ref (He.ga K (ErrN c))) (.ref (He.ga K (ErrN d))) = some (isSub c d))
theorem exmB_ok {K : PySem.W.Frag} {T : Tx} {cs : List Nat} {hs : List (Nat × TSt)} (h : exmB K cs (hs.map (·.1)) = true) (hT : T.cl = fun c => He.ga K (ErrN c) := by rfl) :
    ∀ c ∈ cs, ∀ q ∈ hs, PySem.W.exmOne K (.ref (T.cl c)) (.ref (T.cl q.1)) = some (isSub c q.1) := fun c hc q hq => by
  have h1 := List.all_eq_true.mp h c hc
  have h2 := List.all_eq_true.mp h1 q.1 (List.mem_map.mpr ⟨q, hq, rfl⟩)
  rw [hT]
  exact of_decide_eq_true h2
theorem exm1_ok {K : PySem.W.Frag} {T : Tx} {cs : List Nat} {c : Nat} (h : exmB K cs [c] = true) (hT : T.cl = fun c => He.ga K (ErrN c) := by rfl) :
    ∀ k ∈ cs, PySem.W.exmOne K (.ref (T.cl k)) (.ref (T.cl c)) = some (isSub k c) := fun k hk => exmB_ok (T := T) (hs := [(c, fun _ _ => none)]) h hT k hk (c, fun _ _ => none) List.mem_cons_self
def clsDef (s : Stmt) (j : Nat) : Stmt := match s with
  | .ClassDef _ _ _ body _ _ _ _ _ _ _ => body.getD j (.Pass ⟨0, 0, 0, 0⟩)
  | _ => .Pass ⟨0, 0, 0, 0⟩
def xfsA (K : PySem.W.Frag) (cs : List Nat) (f : Str) : Bool := cs.all fun k => xfsB K f (He.ga K (ErrN k))
theorem xfsA_ok {K : PySem.W.Frag} {T : Tx} {cs : List Nat} {f : Str} (h : xfsA K cs f = true) (hT : T.cl = fun c => He.ga K (ErrN c) := by rfl) : ∀ k ∈ cs, XfC K (T.cl k) ∧ PySem.W.findIn K (.ref (T.cl k)) f = some none := fun k hk => by
  rw [hT]
  have := List.all_eq_true.mp h k hk
  unfold xfsB at this
  rw [Bool.and_eq_true, decide_eq_true_eq] at this
  exact ⟨xfB_ok this.1, this.2⟩
def excsB (K : PySem.W.Frag) (cs : List Nat) : Bool := cs.all fun c => excB K (He.ga K (ErrN c))
theorem excsB_ok {K : PySem.W.Frag} {T : Tx} {cs : List Nat} (h : excsB K cs = true) (hT : T.cl = fun c => He.ga K (ErrN c) := by rfl) : ∀ k ∈ cs, ExcC K (T.cl k) := fun k hk => by
  rw [hT]
  exact excB_ok (List.all_eq_true.mp h k hk)
def kiB (K : PySem.W.Frag) (cs : List Nat) (c : Nat) : Bool := cs.all fun k => decide (PySem.W.kitOne K (.ref (He.ga K (ErrN k))) (if c = 1000 then .type "ValueError" else .ref (He.ga K (ErrN c))) = some (if c = 1000 then true else isSub k c))
theorem kiB_ok {K : PySem.W.Frag} {T : Tx} {cs : List Nat} {c : Nat} {cv : Value} (h : kiB K cs c = true) (hT : T.cl = fun c => He.ga K (ErrN c) := by rfl) (hc : cv = (if c = 1000 then .type "ValueError" else .ref (He.ga K (ErrN c))) := by rfl) :
    ∀ k ∈ cs, PySem.W.kitOne K (.ref (T.cl k)) cv = some (if c = 1000 then true else isSub k c) := fun k hk => by
  rw [hT, hc]
  exact of_decide_eq_true (List.all_eq_true.mp h k hk)
def tabsU (ts : List (Addr × Str)) : Bool := ts.all fun a => ts.all fun b => decide (a.1 ≠ b.1) || decide (a.2 = b.2)
theorem tabU_ok {ts : List (Addr × Str)} (h : tabsU ts = true) (p : Addr × Str) (hp : p ∈ ts) (q : Addr × Str) (hq : q ∈ ts) (e : p.1 = q.1) : p.2 = q.2 := by
  have h1 := List.all_eq_true.mp h p hp
  have h2 := List.all_eq_true.mp h1 q hq
  rcases Bool.or_eq_true_iff.mp h2 with z | z
  · exact absurd e (of_decide_eq_true z)
  · exact of_decide_eq_true z
theorem cdv_of {K : PySem.W.Frag} {x qual : Str} {cdv : Value} (h : CdOk K (He.ga K x) qual cdv) : cdv = .ref (He.codeOf K (x, none)) := by
  obtain ⟨oc, od, osl, fd, lk, e, hc⟩ := h
  obtain ⟨c, rfl⟩ := He.codeIn_ref hc
  rw [He.codeOf_eq (p := (x, none)) (show K.lookup (He.fAd K (x, none)) = _ from lk) e]
theorem tabs_of {H : Hp} {ts : List (Addr × Str)} (h : ∀ p ∈ ts, H p.1 = some (.tbl #[])) : LamX.Tabs ts H := fun p hp => LamX.TabS.nil (h p hp)
end Q
namespace Q
open PySem L2
section
variable {α β : Type} {s : Sl} {S S1 : Store} {d e : D} {a b c t : TE} {i j : Int}
@[simp] theorem bind_ok {x : α} {k : α → Store → Res β} : (Res.ok x S).bind k = k x S := (rfl)
@[simp] theorem bind_ex {x : Ex} {k : α → Store → Res β} : (Res.ex x S : Res α).bind k = .ex x S := (rfl)
@[simp] theorem bind_err {k : α → Store → Res β} : (Res.err : Res α).bind k = .err := (rfl)
@[simp] theorem onE_ok' {k : D → Store → RS} : onE (.ok d S) s k = k d S := (rfl)
@[simp] theorem onE_ex' {x : Ex} {k : D → Store → RS} : onE (.ex x S) s k = some (.ex x s, S) := (rfl)
@[simp] theorem onE_err' {k : D → Store → RS} : onE .err s k = none := (rfl)
@[simp] theorem ofO_some : ofO (some (d, S)) = .ok d S := (rfl)
@[simp] theorem ofO_none : ofO none = .err := (rfl)
@[simp] theorem eV_eq {n : Nat} : eV n s S = match s[n]? with | some (some d) => .ok d S | _ => .err := (rfl)
@[simp] theorem eC_eq : eC d s S = .ok d S := (rfl)
@[simp] theorem e1_eq {f : Op1} : e1 f a s S = (a s S).bind fun x S1 => ofO (f x S1) := (rfl)
@[simp] theorem e2_eq {f : Op2} : e2 f a b s S = (a s S).bind fun x S1 => (b s S1).bind fun y S2 => ofO (f x y S2) := (rfl)
@[simp] theorem eArgs_nil : eArgs [] s S = .ok [] S := (rfl)
@[simp] theorem eArgs_cons {as : List TE} : eArgs (a :: as) s S = (a s S).bind fun x S1 => (eArgs as s S1).bind fun xs S2 => .ok (x :: xs) S2 := (rfl)
@[simp] theorem eN_eq {f : OpN} {as : List TE} : eN f as s S = (eArgs as s S).bind fun xs S1 => ofO (f xs S1) := (rfl)
@[simp] theorem eM_eq {k : D → Store → Bool} {f : OpN} {as : List TE} : eM k f a as s S = (a s S).bind fun x S1 => if k x S1 then (eArgs as s S1).bind fun xs S2 => ofO (f (x :: xs) S2) else .err := (rfl)
@[simp] theorem eCall_eq {cl : CallT} {n : Nat} {as : List TE} : eCall cl n as s S = (eArgs as s S).bind fun xs S1 => cl n xs S1 := (rfl)
@[simp] theorem asB_bl' {k : Bool → Store → Res D} {x : Bool} : asB (.bl x) S k = k x S := (rfl)
@[simp] theorem asBS_bl' {k : Bool → Store → RS} {x : Bool} : asBS (.bl x) S k = k x S := (rfl)
@[simp] theorem eAnd_eq : eAnd a b s S = (a s S).bind fun x S1 => asB x S1 fun c S2 => if c then b s S2 else .ok (.bl false) S2 := (rfl)
@[simp] theorem eOr_eq : eOr a b s S = (a s S).bind fun x S1 => asB x S1 fun c S2 => if c then .ok (.bl true) S2 else b s S2 := (rfl)
@[simp] theorem eNot_eq : eNot a s S = (a s S).bind fun x S1 => asB x S1 fun c S2 => .ok (.bl (!c)) S2 := (rfl)
@[simp] theorem eIf_eq : eIf t a b s S = (t s S).bind fun x S1 => asB x S1 fun c S2 => if c then a s S2 else b s S2 := (rfl)
@[simp] theorem eChain_eq {f g : Op2} : eChain f g a b c s S = (a s S).bind fun x S1 => (b s S1).bind fun y S2 => (ofO (f x y S2)).bind fun r S3 => asB r S3 fun k S4 =>
  if k then (c s S4).bind fun z S5 => ofO (g y z S5) else .ok (.bl false) S4 := (rfl)
@[simp] theorem eTup_eq {as : List TE} : eTup as s S = (eArgs as s S).bind fun xs S1 => .ok (.tup xs) S1 := (rfl)
@[simp] theorem eLst_eq {as : List TE} : eLst as s S = (eArgs as s S).bind fun xs S1 => .ok (.lst xs) S1 := (rfl)
@[simp] theorem eLstM_eq {as : List TE} : eLstM as s S = (eArgs as s S).bind fun xs S1 => if flats xs then .ok (.ptr S1.L.length) (S1.new xs) else .err := (rfl)
@[simp] theorem put_nm {n : Nat} : (Pat.nm n).put d s = some (s.set n (some d)) := (rfl)
@[simp] theorem put_tp {ps : List Pat} {ds : List D} : (Pat.tp ps).put (.tup ds) s = Pat.puts ps ds s := (rfl)
@[simp] theorem puts_nil : Pat.puts [] [] s = some s := (rfl)
@[simp] theorem puts_cons {p : Pat} {ps : List Pat} {ds : List D} : Pat.puts (p :: ps) (d :: ds) s = match p.put d s with | some s1 => Pat.puts ps ds s1 | none => none := (rfl)
@[simp] theorem tNo_eq : tNo s S = none := (rfl)
@[simp] theorem tPass_eq : tPass s S = some (.nx s, S) := (rfl)
@[simp] theorem tBrk_eq : tBrk s S = some (.bk s, S) := (rfl)
@[simp] theorem tCnt_eq : tCnt s S = some (.ct s, S) := (rfl)
@[simp] theorem tSeq_eq {x y : TSt} : tSeq x y s S = match x s S with | some (.nx s1, S1) => y s1 S1 | r => r := (rfl)
@[simp] theorem tExpr_eq : tExpr a s S = onE (a s S) s fun _ S1 => some (.nx s, S1) := (rfl)
@[simp] theorem tRet_eq : tRet a s S = onE (a s S) s fun d S1 => some (.ret d, S1) := (rfl)
@[simp] theorem tSet_eq {p : Pat} : tSet p a s S = onE (a s S) s fun d S1 => match p.put d s with | some s1 => some (.nx s1, S1) | none => none := (rfl)
@[simp] theorem tIf_eq {x y : TSt} : tIf t x y s S = onE (t s S) s fun v S1 => asBS v S1 fun c S2 => if c then x s S2 else y s S2 := (rfl)
@[simp] theorem tSetIx_eq {o ix v : TE} : tSetIx o ix v s S = onE (v s S) s fun x S1 => onE (o s S1) s fun y S2 => onE (ix s S2) s fun z S3 => match setL y z x S3 with | some S4 => some (.nx s, S4) | none => none := (rfl)
@[simp] theorem tFor_eq {p : Pat} {src : Src} {x : TSt} : tFor p src x s S = match src s S with | .ok ds S1 => forL p x ds s S1 | .ex e S1 => some (.ex e s, S1) | .err => none := (rfl)
@[simp] theorem tFrz_eq {n : Nat} {x : TSt} : tFrz n x s S = match frzS n s S with | some (s1, S1) => x s1 S1 | none => none := (rfl)
@[simp] theorem sN_eq {f : List D → Option (List D)} {as : List TE} : sN f as s S = (eArgs as s S).bind fun xs S1 => match f xs with | some ds => .ok ds S1 | none => .err := (rfl)
@[simp] theorem eLc_eq {vs : List Nat} {p : Pat} {src : Src} : eLc vs p src t a s S = (src s S).bind fun ds S1 => lcL p t a (wipeS s vs) ds [] S1 := (rfl)
@[simp] theorem wipeS_nil : wipeS s [] = s := (rfl)
@[simp] theorem wipeS_cons {v : Nat} {vs : List Nat} : wipeS s (v :: vs) = (wipeS s vs).set v none := (rfl)
@[simp] theorem oAdd_int : oAdd (.int i) (.int j) S = some (.int (i + j), S) := (rfl)
@[simp] theorem oSub_int : oSub (.int i) (.int j) S = some (.int (i - j), S) := (rfl)
@[simp] theorem oNeg_int : oNeg (.int i) S = some (.int (-i), S) := (rfl)
@[simp] theorem oLt_int : oLt (.int i) (.int j) S = some (.bl (decide (i < j)), S) := (rfl)
@[simp] theorem oLe_int : oLe (.int i) (.int j) S = some (.bl (decide (i ≤ j)), S) := (rfl)
@[simp] theorem oGt_int : oGt (.int i) (.int j) S = some (.bl (decide (j < i)), S) := (rfl)
@[simp] theorem oGe_int : oGe (.int i) (.int j) S = some (.bl (decide (j ≤ i)), S) := (rfl)
@[simp] theorem oEq_int : oEq (.int i) (.int j) S = some (.bl (decide (i = j)), S) := (rfl)
@[simp] theorem oNe_int : oNe (.int i) (.int j) S = some (.bl (!decide (i = j)), S) := (rfl)
@[simp] theorem oEq_bl {x y : Bool} : oEq (.bl x) (.bl y) S = some (.bl (decide (x = y)), S) := (rfl)
@[simp] theorem oNe_bl {x y : Bool} : oNe (.bl x) (.bl y) S = some (.bl (!decide (x = y)), S) := (rfl)
@[simp] theorem oEq_str {x y : Str} : oEq (.str x) (.str y) S = some (.bl (decide (x = y)), S) := (rfl)
@[simp] theorem oNe_str {x y : Str} : oNe (.str x) (.str y) S = some (.bl (!decide (x = y)), S) := (rfl)
@[simp] theorem oIsN_eq : oIsN d S = some (.bl (isN d), S) := (rfl)
@[simp] theorem oNotN_eq : oNotN d S = some (.bl (!isN d), S) := (rfl)
@[simp] theorem isN_non : isN .non = true := (rfl)
@[simp] theorem isN_int : isN (.int i) = false := (rfl)
@[simp] theorem isN_bl {x : Bool} : isN (.bl x) = false := (rfl)
@[simp] theorem isN_str {x : Str} : isN (.str x) = false := (rfl)
@[simp] theorem isN_tup {x : List D} : isN (.tup x) = false := (rfl)
@[simp] theorem isN_lst {x : List D} : isN (.lst x) = false := (rfl)
@[simp] theorem oAbs_eq : oAbs [.int i] S = some (.int (if i < 0 then -i else i), S) := (rfl)
@[simp] theorem oInt_int : oInt [.int i] S = some (.int i, S) := (rfl)
@[simp] theorem oInt_bl {x : Bool} : oInt [.bl x] S = some (.int (if x then 1 else 0), S) := (rfl)
@[simp] theorem oLen_lst {x : List D} : oLen [.lst x] S = some (.int x.length, S) := (rfl)
@[simp] theorem oLen_tup {x : List D} : oLen [.tup x] S = some (.int x.length, S) := (rfl)
@[simp] theorem oMax2_eq : oMax2 [.int i, .int j] S = some (.int (if j > i then j else i), S) := (rfl)
@[simp] theorem oMin2_eq : oMin2 [.int i, .int j] S = some (.int (if j < i then j else i), S) := (rfl)
@[simp] theorem oPow_10 {n : Nat} : oPow (.int 10) (.int (n : Int)) S = if n ≤ 1000000 then some (.int (10 ^ n), S) else none := by
  unfold oPow
  have h : decide ((10 : Int).natAbs < 2 ^ 64) = true := by decide
  simp [h]
  congr 1
  apply propext; omega
theorem oMulL_int (h : smallI i || smallI j || (midI i && midI j)) : oMulL (.int i) (.int j) S = some (.int (i * j), S) := by
  unfold oMulL; simp only; rw [if_pos h]
theorem oMul_l (h1 : -(2 ^ 64) < i) (h2 : i < 2 ^ 64) : oMulL (.int i) (.int j) S = some (.int (i * j), S) := oMulL_int (by
  have : smallI i = true := by unfold smallI; simp only [Bool.and_eq_true, decide_eq_true_eq]; exact ⟨h1, h2⟩
  simp [this])
theorem oMul_r (h1 : -(2 ^ 64) < j) (h2 : j < 2 ^ 64) : oMulL (.int i) (.int j) S = some (.int (i * j), S) := oMulL_int (by
  have : smallI j = true := by unfold smallI; simp only [Bool.and_eq_true, decide_eq_true_eq]; exact ⟨h1, h2⟩
  simp [this])
theorem oDiv_small (h1 : 0 < j) (h2 : j < 1073741824) : oDiv (.int i) (.int j) S = some (.int (i / j), S) := by
  unfold oDiv
  have : divOk j = true := by
    unfold divOk
    simp only [Bool.or_eq_true, Bool.and_eq_true, decide_eq_true_eq]
    exact .inl ⟨by omega, by omega⟩
  simp only [this, if_true]
  rw [Int.fdiv_eq_ediv_of_nonneg _ (by omega)]
theorem oDiv_big (h1 : 0 < j) (h2 : j.natAbs.log2 < 9000) : oDiv (.int i) (.int j) S = some (.int (i / j), S) := by
  unfold oDiv
  have : divOk j = true := by
    unfold divOk
    simp only [Bool.or_eq_true, Bool.and_eq_true, decide_eq_true_eq]
    exact .inr ⟨h1, h2⟩
  simp only [this, if_true]
  rw [Int.fdiv_eq_ediv_of_nonneg _ (by omega)]
theorem oMod_pos (h1 : 0 < j) : oMod (.int i) (.int j) S = some (.int (i % j), S) := by
  unfold oMod
  simp only
  rw [if_neg (by omega), Int.fmod_eq_emod_of_nonneg _ (by omega)]
theorem oIx_lst {xs : List D} {n : Nat} (h : xs[n]? = some d) : oIx (.lst xs) (.int n) S = some (d, S) := by
  have h1 := (List.getElem?_eq_some_iff.mp h).1
  have e : atI xs (n : Int) = some d := atI_nat h
  simp [oIx, itemsLT, itemsL, e]
theorem oIx_tup {xs : List D} {n : Nat} (h : xs[n]? = some d) : oIx (.tup xs) (.int n) S = some (d, S) := by
  have e : atI xs (n : Int) = some d := atI_nat h
  simp [oIx, itemsLT, e]
@[simp] theorem oIx_tup0 {x : D} {xs : List D} : oIx (.tup (x :: xs)) (.int 0) S = some (x, S) := oIx_tup (n := 0) rfl
@[simp] theorem oIx_tup1 {x y : D} {xs : List D} : oIx (.tup (x :: y :: xs)) (.int 1) S = some (y, S) := oIx_tup (n := 1) rfl
@[simp] theorem oIx_tup2 {x y z : D} {xs : List D} : oIx (.tup (x :: y :: z :: xs)) (.int 2) S = some (z, S) := oIx_tup (n := 2) rfl
theorem oIx_ptr {xs : List D} {k n : Nat} (g : S.get k = some xs) (h : xs[n]? = some d) : oIx (.ptr k) (.int n) S = some (d, S) := by
  have e : atI xs (n : Int) = some d := atI_nat h
  simp [oIx, itemsLT, itemsL, g, e]
theorem setL_ptr {xs : List D} {k n : Nat} (g : S.get k = some xs) (h : n < xs.length) (f : d.flat = true) : setL (.ptr k) (.int n) d S = some (S.put k (xs.set n d)) := by
  have e : ixN xs.length (n : Int) = some n := by unfold ixN; simp [h]
  simp [setL, g, e, f]
theorem get_lt {k : Nat} {xs : List D} (h : S.get k = some xs) : k < S.L.length := by
  unfold Store.get at h
  cases e : S.L[k]? with
  | none => rw [e] at h; cases h
  | some o => exact (List.getElem?_eq_some_iff.mp e).1
@[simp] theorem put_put {k : Nat} {xs ys : List D} : (S.put k xs).put k ys = S.put k ys := by unfold Store.put; simp
theorem get_put_self {k : Nat} {xs ys : List D} (h : S.get k = some xs) : (S.put k ys).get k = some ys := by
  have := get_lt h
  unfold Store.get Store.put
  simp [this]
theorem get_put_ne {k j : Nat} {ys : List D} (h : j ≠ k) : (S.put k ys).get j = S.get j := by
  unfold Store.get Store.put
  simp [List.getElem?_set_ne (Ne.symm h)]
theorem put_self {k : Nat} {xs : List D} (h : S.get k = some xs) : S.put k xs = S := by
  unfold Store.get at h
  unfold Store.put
  cases e : S.L[k]? with
  | none => rw [e] at h; cases h
  | some o =>
    rw [e] at h
    cases o with
    | none => cases h
    | some ys =>
      cases h
      obtain ⟨h1, h2⟩ := List.getElem?_eq_some_iff.mp e
      have : S.L.set k (some xs) = S.L := by rw [← h2, List.set_getElem_self]
      rw [this]
@[simp] theorem put_len {k : Nat} {xs : List D} : (S.put k xs).L.length = S.L.length := by unfold Store.put; simp
theorem get_new_self {xs : List D} : (S.new xs).get S.L.length = some xs := by unfold Store.get Store.new; simp
theorem get_new_lt {k : Nat} {xs : List D} (h : k < S.L.length) : (S.new xs).get k = S.get k := by
  unfold Store.get Store.new
  simp [List.getElem?_append_left h]
end
theorem run_keep {np ns : Nat} {b : CallT → TSt} {c : CallT} {vs : List D} {S S' : Store} {v : D} (hl : vs.length = np) (h : b c (vs.map some ++ List.replicate (ns - np) none) S = some (.ret v, S')) : runFn ⟨np, ns, true, b⟩ c vs S = .ok v S' := by
  unfold runFn
  simp only [hl, if_true]
  simp only [h]
  rfl
theorem run_keep_nx {np ns : Nat} {b : CallT → TSt} {c : CallT} {vs : List D} {S S' : Store} {s' : Sl} (hl : vs.length = np) (h : b c (vs.map some ++ List.replicate (ns - np) none) S = some (.nx s', S')) : runFn ⟨np, ns, true, b⟩ c vs S = .ok .non S' := by
  unfold runFn
  simp only [hl, if_true]
  simp only [h]
  rfl
theorem run_cut {np ns : Nat} {b : CallT → TSt} {c : CallT} {vs : List D} {S S' : Store} {v : D} (hl : vs.length = np) (h : b c (vs.map some ++ List.replicate (ns - np) none) S = some (.ret v, S')) (hf : v.flat = true) : runFn ⟨np, ns, false, b⟩ c vs S = .ok v (S'.cut S.L.length) := by
  unfold runFn
  simp only [hl, if_true]
  simp only [h]
  unfold leave
  simp [hf]
theorem lc_map {i : Nat} {t e : TE} {s : Sl} {S : Store} (f : D → D) : ∀ (ds acc : List D), (∀ d ∈ ds, t (s.set i (some d)) S = .ok (.bl true) S ∧ e (s.set i (some d)) S = .ok (f d) S) → acc.length + ds.length ≤ sizeLine → lcL (.nm i) t e s ds acc S = .ok (.lst (acc ++ ds.map f)) S
  | [], acc, _, _ => by simp [lcL]
  | d :: ds, acc, h, hl => by
    obtain ⟨h1, h2⟩ := h d List.mem_cons_self
    simp only [List.length_cons] at hl
    have h3 : lineOk acc.length = true := by unfold lineOk; exact decide_eq_true (by omega)
    unfold lcL
    simp only [put_nm, h1, h2, h3, if_true]
    rw [lc_map f ds (acc ++ [f d]) (fun d' hd => h d' (List.mem_cons_of_mem _ hd)) (by simp; omega)]
    simp
theorem lc_mapP {p : Pat} {t e : TE} {s : Sl} {S : Store} (f : D → D) : ∀ (ds acc : List D), (∀ d ∈ ds, ∃ s1, p.put d s = some s1 ∧ t s1 S = .ok (.bl true) S ∧ e s1 S = .ok (f d) S) → acc.length + ds.length ≤ sizeLine → lcL p t e s ds acc S = .ok (.lst (acc ++ ds.map f)) S
  | [], acc, _, _ => by simp [lcL]
  | d :: ds, acc, h, hl => by
    obtain ⟨s1, h0, h1, h2⟩ := h d List.mem_cons_self
    simp only [List.length_cons] at hl
    have h3 : lineOk acc.length = true := by unfold lineOk; exact decide_eq_true (by omega)
    unfold lcL
    simp only [h0, h1, h2, h3, if_true]
    rw [lc_mapP f ds (acc ++ [f d]) (fun d' hd => h d' (List.mem_cons_of_mem _ hd)) (by simp; omega)]
    simp
theorem whL_mono {t : TE} {b : TSt} : ∀ {n m : Nat} {s : Sl} {S : Store} {r : Fl × Store}, whL t b n s S = some r → n ≤ m → whL t b m s S = some r
  | 0, _, _, _, _, h, _ => by cases h
  | n + 1, 0, _, _, _, _, hm => absurd hm (Nat.not_succ_le_zero _)
  | n + 1, m + 1, s, S, r, h, hm => by
    unfold whL at h ⊢
    cases e : t s S with
    | ok d S1 =>
      simp only [e, onE_ok'] at h ⊢
      cases d <;> try (simp [asBS] at h; done)
      rename_i k
      simp only [asBS_bl'] at h ⊢
      cases k with
      | false => simpa using h
      | true =>
        simp only [if_true] at h ⊢
        cases e2 : b s S1 with
        | none => simp [e2] at h
        | some p =>
          obtain ⟨f, S3⟩ := p
          simp only [e2] at h ⊢
          cases f with
          | nx s3 => exact whL_mono h (Nat.le_of_succ_le_succ hm)
          | ct s3 => exact whL_mono h (Nat.le_of_succ_le_succ hm)
          | bk s3 => exact h
          | ret d => exact h
          | ex x s3 => exact h
    | ex x S1 => simp only [e, onE_ex'] at h ⊢; exact h
    | err => simp [e] at h
theorem while_of {t : TE} {b : TSt} {n : Nat} {s : Sl} {S : Store} {r : Fl × Store} (h : whL t b n s S = some r) (hn : n ≤ whMost) : tWhile t b s S = some r := whL_mono h hn
section
variable {s : Sl} {S : Store} {d : D}
@[simp] theorem tRaise_eq {c : Nat} : tRaise c s S = some (.ex ⟨c, []⟩ s, S) := (rfl)
@[simp] theorem flatR_ok : flatR (.ok d S) = if d.flat then .ok d S else .err := (rfl)
@[simp] theorem flatR_ex {e : Ex} : flatR (.ex e S) = if flats e.args then .ex e S else .err := (rfl)
theorem run_ex {np ns : Nat} {b : CallT → TSt} {c : CallT} {vs : List D} {S S' : Store} {e : Ex} {s' : Sl} (hl : vs.length = np) (h : b c (vs.map some ++ List.replicate (ns - np) none) S = some (.ex e s', S')) : runFn ⟨np, ns, true, b⟩ c vs S = .ex e S' := by
  unfold runFn
  simp only [hl, if_true]
  simp only [h]
theorem eTold_ret {n : Nat} {b : (Store → Res D) → TSt} {te : TE} {S' : Store} (h : b (fun S1 => flatR (te s S1)) (some (.fn 0) :: List.replicate n none) S = some (.ret d, S')) (hf : d.flat = true) : eTold true n b te s S = .ok d S' := by
  unfold eTold
  rw [if_pos rfl, h]
  simp [hf]
end
end Q
set_option maxHeartbeats 2000000
namespace Q
open PySem PySem.Spec PyProof.Rows L2
structure RoomG (k : Nat) (A : Around) : Prop extends Room k A where
  gd : A.guards = some []
theorem RoomG.mono {j k : Nat} {A : Around} (r : RoomG k A) (h : j ≤ k) : RoomG j A := ⟨r.toRoom.mono h, r.gd⟩
theorem RoomG.deeper {k : Nat} {A : Around} (r : RoomG (k + 1) A) (env : Env) : RoomG k (A.deeper env) := ⟨r.toRoom.deeper env, r.gd⟩
theorem RoomG.u200 {k : Nat} {A : Around} (r : RoomG k A) : A.units + 200 < cLine := by have := r.un; omega
structure FnOkG (P : Program) (w : World) (K : PySem.W.Frag) (mg : Str → Option Value) (base : Heap) (CX : CXT) (k : Nat) (f : Addr) (fd : FuncData) (ps : List Str) (sp : Sp) : Prop where
  len : ∀ vs H Q E, sp vs H Q E → vs.length = ps.length
  runG : ∀ (A : Around) (below : List Env) (s : Shared) (H : Hp) (as : Args) (us : List Value) (vs : List V) (Q : VK) (E : XK), RoomG k A → Env0 P w K mg base A below s H → BindsTo s fd as (ps.zip us) → Vals vs us → sp vs H Q E → codeAny (model P w) A (.call (.ref f) as) (CR CX below P w H s Q E) s
theorem FnOkG.toEx {P : Program} {w : World} {K : PySem.W.Frag} {mg : Str → Option Value} {base : Heap} {k : Nat} {f : Addr} {fd : FuncData} {ps : List Str} {sp : Sp} (F : FnOkG P w K mg base (L2.CX P w) k f fd ps sp) : FnOkG P w K mg base (CXe P) k f fd ps sp :=
  ⟨F.len, fun A below s H as us vs Qv E hr he hb hv hs => codeAny_mono (F.runG A below s H as us vs Qv E hr he hb hv hs) fun r s' h => by
    cases r with
    | error e => exact ⟨w, h⟩
    | ok f => cases f <;> exact h⟩
theorem fn_ofG {CX : CXT} {P : Program} {w : World} {K : PySem.W.Frag} {mg : Str → Option Value} {base : Heap} {k : Nat} {f : Addr} {nm ql : Str} {pr : Arguments} {bd : List Stmt} {sc : Scope} {dV kV doc pm cdv ct oc : Value} {an od : Option Addr} {osl : Array (Option Value)} {N ps : List Str} {sp : Sp}
    (lk : K.lookup f = some ⟨oc, od, .func (PySem.W.fnOf nm ql pr bd sc dV kV doc pm an cdv ct), osl⟩) (hcd : PySem.W.codeIn K cdv ql = true) (S : FnScope N ps sc) (len : ∀ vs H Q E, sp vs H Q E → vs.length = ps.length)
    (hbody : ∀ (A : Around) (below : List Env) (s : Shared) (H : Hp) (vs : List V) (Q : VK) (E : XK), RoomG k (A.deeper (envOfC ql sc s.heap.objs.size f cdv)) → sp vs H Q E → ∃ t, PSs (cxOf CX P w K mg base N ql sc f cdv A below s H E) bd t ∧ t { nx := fun _ H' => Q .non H', rt := Q } (start N vs) H) :
    FnOkG P w K mg base CX (k + 1) f (PySem.W.fnOf nm ql pr bd sc dV kV doc pm an cdv ct) ps sp := ⟨len, fun A below s H as us vs Q E hr e0 hb rv hsp => by
  have nvs := len _ _ _ _ hsp
  have stays : ∀ b o, base.get? b = some o → s.heap.get? b = some o := fun b o e => (e0.bs b o e).1
  have inS : K.In s.heap := e0.mod.kin.keeps stays
  have nol : s.heap.NoLimit := e0.mod.nolimit.keeps stays
  have kinds : ∀ y ∈ ps.zip us, sc.names.lookup y.1 = some .local ∨ (sc.names.lookup y.1 = some .cell ∧ ((cellsFrom (s.heap.objs.size + 1) sc.names []).lookup y.1).isSome = true) := by
    rintro ⟨n, v⟩ hy
    exact (S.par n (List.of_mem_zip hy).1).imp id fun q => ⟨q, PySem.W.cellsFrom_some _ _ _ (.inl q)⟩
  refine codeAny_call_function hr.toRoom.depth (inS _ _ lk) rfl S.co S.gen rfl (PySem.W.codeRec_of inS hcd) (hb _ _ _ _ (wpAny_newFunctionEnv_cells S.kind kinds fun env he s1 x => ?_))
  subst he
  refine ⟨nol.keeps x.toInCall.keep, codeAny_func ?_⟩
  obtain ⟨t, ht, hq⟩ := hbody A below s H vs Q E (hr.deeper _) hsp
  refine wpAny_mono (ht.run [] s1 (start N vs) H _ (inv_start S hr.toRoom.hd e0 nvs rv x) hq) (fun fl s' hs => ?_) fun _ _ z => z
  cases fl with
  | next =>
    obtain ⟨σ', H', J, q⟩ := hs
    exact ⟨.non, H', J.os, J.bare, J.base, J.hok, rfl, q⟩
  | ret u =>
    obtain ⟨v, σ', H', J, ru, q⟩ := hs
    exact ⟨v, H', J.os, J.bare, J.base, J.hok, ru, q⟩
  | brk =>
    obtain ⟨_, _, _, z⟩ := hs
    exact z.elim
  | cont =>
    obtain ⟨_, _, _, z⟩ := hs
    exact z.elim⟩
section
variable {X : Cx} {T : Tx} {W : WX} {e : Expr} {es : List Expr} {ts : List Q.TE} {pos : Pos}
theorem run_fnG {k : Nat} {f : Addr} {fd : FuncData} {ps : List Str} {sp : Sp} {CX : CXT} {E : XK} {pins : List (Addr × Obj)} {σ : L2.St} {H : Hp} {s : Shared} {Qv : VK} {us : List Value} {vs : List V} (F : FnOkG X.prog X.w X.K X.mg X.base CX k f fd ps sp) (hr : RoomG k X.A) (hb : Binds X.K fd ps [])
    (hx : PassesAt CX X σ E) (I : Inv X pins σ H s) (rv : Vals vs us) (h : sp vs H Qv E) : wpAny (model X.prog X.w) X.A (call (.ref f) us) (EP X pins σ Qv) X.xe s := by
  have nu : us.length = ps.length := rv.length.symm.trans (F.len _ _ _ _ h)
  have b := hb s us I.kIn (by rw [List.append_nil]; exact nu)
  rw [List.append_nil] at b
  refine wpAny_call (codeAny_mono (F.runG X.A X.stack s H ⟨us, []⟩ us vs Qv E hr I.env0 b rv h) fun r s' z => ?_)
  cases r with
  | error x => exact hx pins H s x s' I z
  | ok fl => cases fl <;> first | exact I.after z | exact False.elim z
theorem ge_callG {k id : Nat} {P : Prog} {f : Addr} {fd : FuncData} {ps : List Str} {x : Str} {p : Pos} (F : FnOkG X.prog X.w X.K X.mg X.base (L2.CX X.prog X.w) k f fd ps (spOf X.K T P k id)) (hr : RoomG k X.A) (hg : Gl X x) (hm : X.mg x = some (.ref f)) (hk : PySem.W.keepIn X.K (.ref f) = true)
    (hb : Binds X.K fd ps []) (tk : Takes X W) (ha : GA X T W (e :: es) ts) (hdb : (x == ("__debug__" : Str)) = false := by decide) (he : starEach (e :: es) X.env = (false, eval e X.env) :: starEach es X.env := by rfl) (hpl : (backTo pos (starEach es X.env)).any (·.1) = false := by rfl) :
    GE X T W (.Call (.Name x p) (e :: es) [] pos) (eCall (callN P k) id ts) := by
  have pe : PE X (.Call (.Name x p) (e :: es) [] pos) (tCallS (spOf X.K T P k id) (WE W) (tAr X.K T W (eArgs ts))) := ⟨fun pins s σ H Qv I h => wpAny_Call_Name_kw (ld_glob I hg hm (PySem.W.callWith_K (h₀ := X.base) I.ok.mod.kin hk (thn (ha.run pos pins s σ H _ I h) fun us s1 ⟨vs, H1, I1, r, q⟩ => ⟨I1.kIn, run_fnG F hr hb (passAt tk σ) I1 r q⟩) he hpl) hdb)⟩
  refine PE.imp pe fun σ H Qv ⟨s, S, ω, rl, rs, q⟩ => ⟨s, S, ω, rl, rs, (EPg.bind q).mono ?_⟩
  rintro vs H1 ⟨ω1, S1, ds, e1, rl1, r1, q1⟩
  refine ⟨ds, S1, ω1, rl1, r1, ?_⟩
  cases z : callN P k id ds S1 <;> rw [z] at q1 <;> exact q1
end
section
variable {P : Program} {w : World} {K : PySem.W.Frag} {mg : Str → Option Value} {base : Heap} {x qual : Str} {params : Arguments} {body : List Stmt} {scope : Scope} {f : Addr} {fd : FuncData} {T : Tx}
theorem fn_okG {N ps : List Str} {k id : Nat} {Pr : Prog} {d : FnD} (F : FunD K x qual params body scope [] [] f fd) (Sc : FnScope N ps scope) (hP : Pr id = some d) (hnp : d.np = ps.length) (hns : d.ns = N.length)
    (hbody : ∀ (cdv : Value), CdOk K f qual cdv → ∀ (A : Around) (outer : List Env) (s : Shared) (H : Hp) (E : XK), RoomG k (A.deeper (envOfC qual scope s.heap.objs.size f cdv)) →
      GSs (cxOf (L2.CX P w) P w K mg base N qual scope f cdv A outer s H E) T (fun cls dd _ H => E cls dd H) body (d.body (callN Pr k))) : FnOkG P w K mg base (L2.CX P w) (k + 1) f fd ps (spOf K T Pr (k + 1) id) := by
  obtain ⟨oc, od, dV, kV, doc, pm, an, cdv, ct, osl, rfl, lk, hcd, _, _⟩ := F.ex
  exact fn_ofG lk hcd Sc (fun vs H Qv E z => sp_len hP hnp z) fun A outer s H vs Qv E hr z => ⟨_, hbody cdv ⟨oc, od, osl, _, lk, rfl, hcd⟩ A outer s H E hr, sp_body hP hns hnp z⟩
structure FnOG (P : Program) (w : World) (K : PySem.W.Frag) (mg : Str → Option Value) (base : Heap) (T : Tx) (Pr : Prog) (k id : Nat) (x : Str) (f : Addr) (ps : List Str) : Prop where
  g : mg x = some (.ref f)
  kp : PySem.W.keepIn K (.ref f) = true
  fn : ∃ fd, Binds K fd ps [] ∧ FnOkG P w K mg base (L2.CX P w) k f fd ps (spOf K T Pr k id)
theorem fn_zeroG {Pr : Prog} {id : Nat} {ps : List Str} : FnOkG P w K mg base (L2.CX P w) 0 f fd ps (spOf K T Pr 0 id) := ⟨fun vs H Qv E ⟨_, _, _, _, _, q⟩ => q.elim, fun A below s H as us vs Qv E _ _ _ _ ⟨_, _, _, _, _, q⟩ => q.elim⟩
end
section
variable {X : Cx} {T : Tx} {W : WX} {e : Expr} {es : List Expr} {ts : List Q.TE} {pos : Pos}
theorem ge_fnG {k id : Nat} {Pr : Prog} {f : Addr} {ps : List Str} {x : Str} {p : Pos} (F : FnOG X.prog X.w X.K X.mg X.base T Pr k id x f ps) (hr : RoomG k X.A) (tk : Takes X W) (hg : Gl X x) (ha : GA X T W (e :: es) ts)
    (hdb : (x == ("__debug__" : Str)) = false := by decide) (he : starEach (e :: es) X.env = (false, eval e X.env) :: starEach es X.env := by rfl) (hpl : (backTo pos (starEach es X.env)).any (·.1) = false := by rfl) : GE X T W (.Call (.Name x p) (e :: es) [] pos) (eCall (callN Pr k) id ts) :=
  F.fn.elim fun fd z => ge_callG z.2 hr hg F.g F.kp z.1 tk ha hdb he hpl
end
end Q
set_option maxHeartbeats 2000000
namespace Q
open PySem PySem.Spec PyProof.Rows L2 LamX
structure First (P : Program) (w : World) (K : PySem.W.Frag) (cs : List (Addr × Addr)) (a : Addr) (ns : List Int) (h : Heap) (H : Hp) : Prop where
  tb : ∀ p ∈ cs, H p.2 = some (.tbl #[])
  only : ∀ b, H b = none ∨ b ∈ cs.map (·.2) ∨ ∃ o xs, H b = some (.frz o (.lst xs))
  sq : SqL K H a (ns.map V.int)
  ok : HOk P w H h
  who : ∀ b, H b ≠ none → b = a ∨ b ∈ cs.map (·.2)
  out : H a ≠ none → K.lookup a = none
section
variable {P : Program} {w : World} {K : PySem.W.Frag} {cs : List (Addr × Addr)} {a : Addr} {ns : List Int} {vs : List Value} {h : Heap}
theorem tab_at (hT : ∀ p ∈ cs, h.get? p.2 = some { cls := .none, data := .fields #[] }) {b : Addr} (hb : b ∈ cs.map (·.2)) : h.get? b = some { cls := .none, data := .fields #[] } := by
  obtain ⟨p, hp, rfl⟩ := List.mem_map.mp hb
  exact hT p hp
theorem first_ex (KX : K.In h) (hT : ∀ p ∈ cs, h.get? p.2 = some { cls := .none, data := .fields #[] }) (ha : h.get? a = some { cls := .type "list", data := .seq vs.toArray }) (hi : IntsAre vs ns) (hl : ns.length ≤ sizeLine) : ∃ H, First P w K cs a ns h H := by
  have hz : ∀ p ∈ cs, p.2 ∈ cs.map (·.2) := fun p hp => List.mem_map.mpr ⟨p, hp, rfl⟩
  have na : a ∉ cs.map (·.2) := fun z => by
    have q := (tab_at hT z).symm.trans ha
    simp at q
  have rv := vals_ints hi
  by_cases hk : K.lookup a = none
  · obtain ⟨H, hH⟩ : ∃ H : Hp, H = fun b => if b = a then some (.frz { cls := .type "list", data := .seq vs.toArray } (.lst (ns.map V.int))) else if b ∈ cs.map (·.2) then some (.tbl #[]) else none := ⟨_, rfl⟩
    have h1 : H a = some (.frz { cls := .type "list", data := .seq vs.toArray } (.lst (ns.map V.int))) := by rw [hH]; exact if_pos rfl
    have h2 : ∀ b, b ∈ cs.map (·.2) → H b = some (.tbl #[]) := fun b hb => by
      rw [hH]
      exact (if_neg fun (z : b = a) => na (z ▸ hb)).trans (if_pos hb)
    have h3 : ∀ b, b ≠ a → b ∉ cs.map (·.2) → H b = none := fun b n1 n2 => by
      rw [hH]
      exact (if_neg n1).trans (if_neg n2)
    refine ⟨H, fun p hp => h2 _ (hz p hp), fun b => ?_, .inl (.inr ⟨_, h1⟩), fun b u z => ?_, fun b z => ?_, fun _ => hk⟩
    · by_cases n1 : b = a
      · exact .inr (.inr ⟨_, _, n1 ▸ h1⟩)
      · by_cases n2 : b ∈ cs.map (·.2)
        · exact .inr (.inl n2)
        · exact .inl (h3 b n1 n2)
    · by_cases n1 : b = a
      · subst n1
        rw [h1] at z
        cases z
        exact ⟨ha, by rw [List.length_map]; exact hl, vs, _, rv, ha⟩
      · by_cases n2 : b ∈ cs.map (·.2)
        · rw [h2 b n2] at z
          cases z
          exact tab_at hT n2
        · rw [h3 b n1 n2] at z
          cases z
    · by_cases n1 : b = a
      · exact .inl n1
      · exact .inr (Classical.byContradiction fun n2 => z (h3 b n1 n2))
  · obtain ⟨o, e⟩ := Option.ne_none_iff_exists'.mp hk
    have eo := (KX a o e).symm.trans ha
    cases eo
    obtain ⟨H, hH⟩ : ∃ H : Hp, H = fun b => if b ∈ cs.map (·.2) then some (.tbl #[]) else none := ⟨_, rfl⟩
    have h2 : ∀ b, b ∈ cs.map (·.2) → H b = some (.tbl #[]) := fun b hb => by rw [hH]; exact if_pos hb
    have h3 : ∀ b, b ∉ cs.map (·.2) → H b = none := fun b n2 => by rw [hH]; exact if_neg n2
    refine ⟨H, fun p hp => h2 _ (hz p hp), fun b => ?_, .inr ⟨_, vs.toArray, _, e, rfl, rfl, rfl, by rw [List.size_toArray, hi.length]; exact hl, by simpa using rv⟩, fun b u z => ?_, fun b z => .inr (Classical.byContradiction fun n2 => z (h3 b n2)), fun z => absurd (h3 a na) z⟩
    · by_cases n2 : b ∈ cs.map (·.2)
      · exact .inr (.inl n2)
      · exact .inl (h3 b n2)
    · by_cases n2 : b ∈ cs.map (·.2)
      · rw [h2 b n2] at z
        cases z
        exact tab_at hT n2
      · rw [h3 b n2] at z
        cases z
end
theorem law_callG {P : Program} {w : World} {K : PySem.W.Frag} {mg mb : Str → Option Value} {CX : CXT} {k : Nat} {fa a : Addr} {cs : List (Addr × Addr)} {fd : FuncData} {x : Str} {sp : Sp} {s₁ : Shared} {vs : List Value} {ns : List Int}
    (KX : K.In s₁.heap) (hns : s₁.heap.Ns mainGlobals mg) (hb : s₁.heap.Ns builtinsNs mb) (hbb : ∀ x : Str, x ≠ "__name__" → mb x = bootBuiltins x) (hlim : s₁.heap.NoLimit) (hg : s₁.gens = #[])
    (hT : ∀ p ∈ cs, s₁.heap.get? p.2 = some { cls := .none, data := .fields #[] }) (nT : ∀ p ∈ cs, K.lookup p.2 = none) (C : ∀ p ∈ cs, PySem.W.CodeHd s₁.heap p.1 p.2)
    (hbm : ∃ (bm : Addr) (ob : Obj), mg "__builtins__" = some (.ref bm) ∧ bm ≠ builtinsNs ∧ s₁.heap.get? bm = some ob ∧ ob.cls = .type "module" ∧ ob.dict = some builtinsNs ∧ ob.data = .plain)
    (ha : s₁.heap.get? a = some { cls := .type "list", data := .seq vs.toArray }) (hi : IntsAre vs ns) (hl : ns.length ≤ sizeLine) (hr : RoomG k callerA)
    (F : ∀ base : Heap, K.In base → base.Ns mainGlobals mg → (∀ p ∈ cs, TabB base mg p.1 p.2) → FnOkG P w K mg base CX k fa fd [x] sp) (hbind : ∀ (s : Shared) (u : Value), BindsTo s fd ⟨[u], []⟩ [(x, u)])
    (hsp : ∀ H : Hp, (∀ p ∈ cs, H p.2 = some (.tbl #[])) → SqL K H a (ns.map V.int) → sp [.ref a] H (fun v _ => v = .bl true) fun _ _ _ => False)
    (hCX : ∀ H e s', CX [] H s₁ (fun _ _ _ => False) e s' → False) :
    codeAny (model P w) callerA (.call (.ref fa) ⟨[.ref a], []⟩) (fun r s' => r = .ok (.ret (.bool true)) ∧ OldK s₁.heap s'.heap ∧ s'.os = s₁.os ∧ AllBare s'.gens) s₁ := by
  obtain ⟨H, Z⟩ := first_ex (P := P) (w := w) KX hT ha hi hl
  -- what is not the script and no table is not tracked
  have free : ∀ {b : Addr} {o : Obj}, s₁.heap.get? b = some o → (∀ us n, o.data ≠ .seq us n) → o.data ≠ .fields #[] → H b = none := fun {b o} e n1 n2 => Classical.byContradiction fun z => by
    rcases Z.who b z with rfl | hb
    · rw [ha] at e
      cases e
      exact n1 _ _ rfl
    · rw [tab_at hT hb] at e
      cases e
      exact n2 rfl
  have kept : ∀ {b : Addr} {o : Obj}, s₁.heap.get? b = some o → (∀ us n, o.data ≠ .seq us n) → o.data ≠ .fields #[] → (hidT s₁.heap H).get? b = some o := fun e n1 n2 => hidT_get e (free e n1 n2)
  have nsOf : ∀ {b : Addr} {m : Str → Option Value}, s₁.heap.Ns b m → (hidT s₁.heap H).Ns b m := by
    rintro b m ⟨o, es, ep, e, d, r⟩
    exact ⟨o, es, ep, kept e (fun us n z => by rw [d] at z; cases z) (fun z => by rw [d] at z; cases z), d, r⟩
  have inB : K.In (hidT s₁.heap H) := fun b o e => hidT_get (KX b o e) (Classical.byContradiction fun z => by
    rcases Z.who b z with rfl | hb
    · rw [Z.out z] at e
      cases e
    · obtain ⟨p, hp, rfl⟩ := List.mem_map.mp hb
      rw [nT p hp] at e
      cases e)
  have tabs : ∀ p ∈ cs, TabB (hidT s₁.heap H) mg p.1 p.2 := fun p hp => by
    have eT := hT p hp
    refine ⟨?_, ?_, fun z => ?_⟩
    · obtain ⟨o, us, file, tf, flags, tg, inF, text, tt, e1, r1, r2, r3, rest⟩ := C p hp
      exact ⟨o, us, file, tf, flags, tg, inF, text, tt, kept e1 (fun vs n z => by rw [r2] at z; cases z) (fun z => by
        rw [r2] at z
        cases z
        simp at r3), r1, r2, r3, rest⟩
    · obtain ⟨bm, ob, b1, b2, b3, b4, b5, b6⟩ := hbm
      refine ⟨bm, ob, b1, b2, fun q => ?_, fun q => ?_, kept b3 (fun vs n z => by rw [b6] at z; cases z) (fun z => by rw [b6] at z; cases z), b4, b5, b6⟩
      · obtain ⟨o, es, ep, e, hd, _⟩ := hns
        rw [← q, b3] at e
        cases e
        rw [b6] at hd
        cases hd
      · rw [q, eT] at b3
        cases b3
        cases b6
    · obtain ⟨o, es, ep, e, hd, _⟩ := hns
      rw [z, eT] at e
      cases e
      cases hd
  obtain ⟨ml, l1, l2⟩ := hlim
  have e0 : Env0 P w K mg (hidT s₁.heap H) callerA [] s₁ H := ⟨rfl, ⟨inB, nsOf hns, ⟨mb, nsOf hb, hbb⟩, ⟨ml, nsOf l1, l2⟩⟩, fun b o e => of_hidT e, Nat.le_of_eq (hidT_size _ _), trivial, fun b z => (List.not_mem_nil z).elim, Z.ok, .of_eq hg⟩
  refine codeAny_mono ((F _ inB (nsOf hns) tabs).runG callerA [] s₁ H ⟨[.ref a], []⟩ [.ref a] [.ref a] _ _ hr e0 (hbind s₁ (.ref a)) (.cons rfl .nil) (hsp H Z.tb Z.sq)) fun r s' z => ?_
  rcases r with e | fl
  · exact (hCX H e s' z).elim
  rcases fl with _ | _ | _ | u
  case ret =>
    obtain ⟨v, H', os, bare, un, hok', ru, rfl⟩ := z
    obtain rfl : u = Value.bool true := ru
    have other : ∀ b o, b ∉ cs.map (·.2) → s₁.heap.get? b = some o → s'.heap.get? b = some o := fun b o nb e => by
      rcases Z.only b with z | z | ⟨ob, xs, z⟩
      · exact un.keep b o e z (fun y => (List.not_mem_nil y).elim) (by simp)
      · exact absurd z nb
      · obtain ⟨e1, _⟩ := Z.ok b _ z
        obtain ⟨e2, _⟩ := hok' b _ (un.frzs b ob _ z)
        exact e2.trans (e1.symm.trans e)
    have grown : ∀ b, b ∈ cs.map (·.2) → ∃ p ∈ cs, p.2 = b ∧ ∃ more : Array Value, s'.heap.get? b = some { cls := .none, data := .fields more } := fun b hb => by
      obtain ⟨p, hp, rfl⟩ := List.mem_map.mp hb
      obtain ⟨more, z⟩ := un.tbls p.2 #[] (Z.tb p hp)
      exact ⟨p, hp, rfl, _, hok' p.2 _ z⟩
    refine ⟨rfl, ⟨fun b o e => ?_, fun b o e => ?_⟩, os, bare⟩
    · by_cases hb : b ∈ cs.map (·.2)
      · obtain ⟨p, hp, rfl, more, hm⟩ := grown b hb
        have e2 := e.symm.trans (hT p hp)
        cases e2
        exact .inr (.inl ⟨((C p hp).tab (hT p hp)).isCodeTable, rfl, #[], more, rfl, by rw [Array.empty_append]; exact hm⟩)
      · exact .inl (other b o hb e)
    · by_cases hb : b ∈ cs.map (·.2)
      · obtain ⟨p, hp, rfl, more, hm⟩ := grown b hb
        exact ⟨_, hm⟩
      · exact ⟨o, other b o hb e⟩
  all_goals exact z.elim
def LawAtG (l : PySem.W.OpenLaw) (w : World) (K : PySem.W.Frag) (CX : CXT) (k n : Nat) (x : Str) (mg : Str → Option Value) (fa : Addr) (h : Heap) : Prop :=
  ∃ (fd : FuncData) (cs : List (Addr × Addr)) (sp : Sp), (∀ p ∈ cs, h.get? p.2 = some { cls := .none, data := .fields #[] }) ∧ (∀ p ∈ cs, K.lookup p.2 = none) ∧ (∀ p ∈ cs, PySem.W.CodeHd h p.1 p.2) ∧ (∀ (s : Shared) (u : Value), BindsTo s fd ⟨[u], []⟩ [(x, u)]) ∧ (∀ (H : Hp) (a : Addr) (ns : List Int), ns.length ≤ n →
    (∀ z ∈ ns, Builtin.Int.intBits z ≤ 1048576) → (∀ p ∈ cs, H p.2 = some (.tbl #[])) → SqL K H a (ns.map V.int) → sp [.ref a] H (fun v _ => v = .bl true) fun _ _ _ => False) ∧ ∀ base : Heap, K.In base → base.Ns mainGlobals mg → (∀ p ∈ cs, TabB base mg p.1 p.2) → FnOkG l.prog w K mg base CX k fa fd [x] sp
theorem walk_ofG {l : PySem.W.OpenLaw} {n k : Nat} {q : Program} {loose : List Str} {XP : (Str → Option Value) → Heap → Prop} {YP : World → Heap → Prop} {d : DefRec} {CX : World → CXT} {x : Str} (hn : l.most = some n) (hn2 : n ≤ sizeLine) (hdf : d.params.defaults = []) (hr : RoomG k callerA)
    (F : ∀ (w : World) (mg : Str → Option Value) (fa : Addr) (h : Heap), YP w h → h.Ns mainGlobals mg → mg d.name = some (.ref fa) → ∃ K : PySem.W.Frag, K.In h ∧ LawAtG l w K (CX w) k n x mg fa h) (hCX : ∀ (w : World) (H : Hp) (s : Shared) (e : Value) (s' : Shared), CX w [] H s (fun _ _ _ => False) e s' → False) :
    PySem.W.WalkO q loose XP YP l.row.toRowW d [] (fun f vs => PySem.call f vs) :=
  Att.attach_callB hn hdf fun w s₀ s₁ mg mb fa o pm cd doc a vs ns G Y ho hd hcd hmg hobj hints hlen hbits hg => by
    obtain ⟨K, KX, fd, cs, sp, z1, z2, z3, z4, z5, z6⟩ := F w mg fa _ Y G.T.g hmg
    exact law_callG KX G.T.g G.T.b G.T.builtins G.T.nolimit hg z1 z2 z3 G.T.bmain hobj hints (Nat.le_trans hlen hn2) hr z6 z4 (fun H h1 h2 => z5 H a ns hlen hbits h1 h2) fun H => hCX w H s₁
theorem roomG {k : Nat} (h : Room k callerA) : RoomG k callerA := ⟨h, rfl⟩
end Q
set_option maxHeartbeats 2000000
namespace Q
open PySem PySem.Spec PyProof.Rows L2
section
variable {X : Cx} {T : Tb} {ω : Wd} {S : Store} {pins : List (Addr × Obj)} {σ : L2.St} {H : Hp} {s : Shared}
structure Rk (P : Program) (w : World) (h : Heap) (u : Value) (p : PyData) : Prop where
  rd : ∃ as, Reads h u p as
  rk : ∃ bs, ReadAtMost h p.depth bs ∧ ReprK P w bs h p.depth u p.shown
structure Rks (P : Program) (w : World) (h : Heap) (us : List Value) (ps : List PyData) : Prop where
  rd : ∃ as, ReadsAll h us ps as
  rk : ∃ bs, ReadAtMost h (PyData.depthAll ps) bs ∧ ReprAllK P w bs h (PyData.depthAll ps) us (PyData.shownAll ps)
theorem Rks.nil {P : Program} {w : World} {h : Heap} : Rks P w h [] [] := ⟨⟨_, .nil⟩, [], (fun _ z => nomatch z), by simp only [PyData.shownAll]; exact .nil⟩
theorem Rks.cons {P : Program} {w : World} {h : Heap} {u : Value} {p : PyData} {us : List Value} {ps : List PyData} (a : Rk P w h u p) (b : Rks P w h us ps) : Rks P w h (u :: us) (p :: ps) := by
  obtain ⟨as, r1⟩ := a.rd
  obtain ⟨bs, r2⟩ := b.rd
  obtain ⟨cs, m1, k1⟩ := a.rk
  obtain ⟨es, m2, k2⟩ := b.rk
  refine ⟨⟨_, .cons r1 r2⟩, cs ++ es, ?_, ?_⟩
  · simp only [PyData.depthAll]
    exact (m1.mono (Nat.le_max_left _ _)).append (m2.mono (Nat.le_max_right _ _))
  · simp only [PyData.depthAll, PyData.shownAll]
    exact .cons ((k1.more fun b hb => List.mem_append_left _ hb).level_le (Nat.le_max_left _ _)) (k2.more_le (fun b hb => List.mem_append_right _ hb) (Nat.le_max_right _ _))
def Shows (P : Program) (w : World) (h : Heap) (u : Value) (p : PyData) : Prop := ∃ a T idr, u = .ref a ∧ SlotG T "__repr__" idr ∧ (∃ o, h.get? a = some o ∧ o.cls = .type T) ∧ ∀ (A : Around) (E : Value → Shared → Prop) (s : Shared) (Q : Value → Shared → Prop), s.heap = h → A.guards = some [] → A.units + p.depth < cLine →
  (∀ h' u tk, (∀ b o, s.heap.get? b = some o → h'.get? b = some o) → Q (.str p.shown u) { s with heap := h', toks := tk }) → wpAny (model P w) A (call (.builtin idr) [.ref a]) Q E s
theorem rk_tup {P : Program} {w : World} {h : Heap} {a : Addr} {o : Obj} {items : Array Value} {n : Nat} {ps : List PyData} (h1 : h.get? a = some o) (h2 : o.cls = .type "tuple") (h3 : o.data = .seq items n) (z : Rks P w h items.toList ps) (hz : (tupleText (PyData.shownAll ps)).length ≤ sizeLine) :
    Rk P w h (.ref a) (.tuple ps) ∧ Shows P w h (.ref a) (.tuple ps) := by
  obtain ⟨as, r⟩ := z.rd
  obtain ⟨bs, m, k⟩ := z.rk
  have rr : Reads h (.ref a) (.tuple ps) _ := .tuple h1 h2 h3 r
  have na : a ∉ bs := not_mem_of_deeper rr (by simp only [PyData.depth]; omega) m
  refine ⟨⟨⟨_, rr⟩, a :: bs, ReadAtMost.cons rr (by simp only [PyData.depth]; omega) m, ?_⟩, a, "tuple", _, rfl, F.slot_tuple_repr, ⟨o, h1, h2⟩, fun A E s Q e hg hu hQ => ?_⟩
  · simp only [PyData.depth, PyData.shown]
    exact ReprK.tuple h1 h2 h3 na k
  · simp only [PyData.depth] at hu
    simp only [PyData.shown] at hQ
    exact call_tuple_reprK h1 h2 h3 na k hg (fun b _ => Clear.nil b) hu (fun b o z => by rw [e]; exact z) hQ hz
theorem rk_lst {P : Program} {w : World} {h : Heap} {a : Addr} {o : Obj} {items : List Value} {n : Nat} {ps : List PyData} (h1 : h.get? a = some o) (h2 : o.cls = .type "list") (h3 : o.data = .seq items.toArray n) (z : Rks P w h items ps) (hz : (listText (PyData.shownAll ps)).length ≤ sizeLine) :
    Rk P w h (.ref a) (.list ps) ∧ Shows P w h (.ref a) (.list ps) := by
  obtain ⟨as, r⟩ := z.rd
  obtain ⟨bs, m, k⟩ := z.rk
  have rr : Reads h (.ref a) (.list ps) _ := .list h1 h2 h3 (by simpa using r)
  have na : a ∉ bs := not_mem_of_deeper rr (by simp only [PyData.depth]; omega) m
  cases items with
  | nil =>
    cases r
    have e0 : PyData.shown (.list []) = "[]" := by simp only [PyData.shown, PyData.shownAll, listText_nil]
    refine ⟨⟨⟨_, rr⟩, a :: bs, ReadAtMost.cons rr (by simp only [PyData.depth]; omega) m, ?_⟩, a, "list", _, rfl, F.slot_list_repr.toG, ⟨o, h1, h2⟩, fun A E s Q e hg hu hQ => ?_⟩
    · rw [e0]
      exact ReprK.listEmpty h1 h2 h3
    · rw [e0] at hQ
      exact call_list_repr_empty ⟨o, by rw [e]; exact h1, h2⟩ (by rw [e]; exact h1) h3 (hQ s.heap _ _ fun _ _ z => z)
  | cons x l =>
    have hl : (PyData.shownAll ps).length = (x :: l).toArray.size := by simpa using k.length_eq
    refine ⟨⟨⟨_, rr⟩, a :: bs, ReadAtMost.cons rr (by simp only [PyData.depth]; omega) m, ?_⟩, a, "list", _, rfl, F.slot_list_repr.toG, ⟨o, h1, h2⟩, fun A E s Q e hg hu hQ => ?_⟩
    · simp only [PyData.depth, PyData.shown]
      exact ReprK.list h1 h2 h3 na hl fun i y e => k.item i y (by simpa using e)
    · simp only [PyData.depth] at hu
      simp only [PyData.shown] at hQ
      exact call_list_reprK h1 h2 h3 na hl (fun i y e => k.item i y (by simpa using e)) hg (fun b _ => Clear.nil b) hu (fun b o z => by rw [e]; exact z) hQ hz
theorem rk_dct {P : Program} {w : World} {h : Heap} {a : Addr} {o : Obj} {es : Array DictEntry} {n : Nat} {ps : List (PyData × PyData)} (hs : (a == sysModules) = false) (h1 : h.get? a = some o) (h2 : o.cls = .type "dict") (h3 : o.data = .dict es n) (z1 : Rks P w h (es.toList.map (·.key)) (ps.map (·.1)))
    (z2 : Rks P w h (es.toList.map (·.val)) (ps.map (·.2))) (hz : (dictText (PyData.shownKv ps)).length ≤ sizeLine) : Rk P w h (.ref a) (.dict ps) ∧ Shows P w h (.ref a) (.dict ps) := by
  obtain ⟨as, r1⟩ := z1.rd
  obtain ⟨bs, r2⟩ := z2.rd
  obtain ⟨cs, m1, k1⟩ := z1.rk
  obtain ⟨ds, m2, k2⟩ := z2.rk
  have rr : Reads h (.ref a) (.dict ps) _ := .dict h1 h2 h3 r1 r2
  have m : ReadAtMost h (PyData.depthKv ps) (cs ++ ds) := (m1.mono (PyData.depthAll_keys_le ps)).append (m2.mono (PyData.depthAll_vals_le ps))
  have na : a ∉ cs ++ ds := not_mem_of_deeper rr (by simp only [PyData.depth]; omega) m
  have k : ReprEntriesK P w (cs ++ ds) h (PyData.depthKv ps) es.toList _ := ReprEntriesK.of_two es.toList _ _ (k1.more_le (fun b hb => List.mem_append_left _ hb) (PyData.depthAll_keys_le ps)) (k2.more_le (fun b hb => List.mem_append_right _ hb) (PyData.depthAll_vals_le ps))
  refine ⟨⟨⟨_, rr⟩, a :: (cs ++ ds), ReadAtMost.cons rr (by simp only [PyData.depth]; omega) m, ?_⟩, a, "dict", _, rfl, F.slot_dict_repr, ⟨o, h1, h2⟩, fun A E s Q e hg hu hQ => ?_⟩
  · simp only [PyData.depth, PyData.shown, PyData.shownKv_eq]
    exact ReprK.dict h1 h2 h3 hs na k
  · simp only [PyData.depth] at hu
    simp only [PyData.shown, PyData.shownKv_eq] at hQ
    exact call_dict_reprK h1 h2 h3 hs na k hg (fun b _ => Clear.nil b) hu (fun b o z => by rw [e]; exact z) hQ (by rw [← PyData.shownKv_eq]; exact hz)
theorem rk_key {P : Program} {w : World} {h : Heap} {k : Key} {u : Value} (hk : (mixKind P w).is k u = true) (hs : (keyP k).showable = true) (hz : (keyP k).shown.length ≤ sizeLine) :
    Rk P w h u (keyP k) := by
  rcases keyIs_shape (show keyIs k u = true from hk) with ⟨i, t, rfl, rfl⟩ | ⟨x, t, rfl, rfl⟩
  · exact ⟨⟨_, .int i t⟩, [], (fun _ z => nomatch z), by simp only [keyP, PyData.shown]; exact .of_is (ReprIs.int t (by simpa [keyP, PyData.showable] using hs)) _ _ _⟩
  · exact ⟨⟨_, .str x t⟩, [], (fun _ z => nomatch z), by simp only [keyP, PyData.shown]; exact .of_is (ReprIs.str x t (by simpa only [keyP, PyData.shown] using hz)) _ _ _⟩
structure RkD (P : Program) (w : World) (h : Heap) (u : Value) (p : PyData) : Prop where
  rk : Rk P w h u p
  sh : Shows P w h u p ∨ ∀ a, u ≠ .ref a
theorem pairs_vals {P : Program} {w : World} : ∀ {es : List DictEntry} {zs : List (Key × Value)}, Pairs (mixKind P w) es zs → es.map (·.val) = zs.map (·.2)
  | [], _, .nil => rfl
  | _ :: _, _, .cons h1 h2 r => by rw [List.map_cons, List.map_cons, h2, pairs_vals r]
mutual
theorem rkD (I : Inv X pins σ H s) (rl : Rl X.K T ω S H) : ∀ (d : D) (v : V) (u : Value) (p : PyData), Rp X.K T ω d v → RelV v u → d.rd = some p → p.showable = true → p.shown.length ≤ sizeLine → RkD X.prog X.w s.heap u p
  | .non, v, u, p, r, rv, e, hs, hz => by
    rw [r.non] at rv
    cases rv
    cases e
    exact ⟨⟨⟨_, .none⟩, [], (fun _ z => nomatch z), by simp only [PyData.shown]; exact .of_is ReprIs.none _ _ _⟩, .inr fun a z => nomatch z⟩
  | .bl b, v, u, p, r, rv, e, hs, hz => by
    rw [r.bl] at rv
    cases rv
    cases e
    exact ⟨⟨⟨_, .bool b⟩, [], (fun _ z => nomatch z), by simp only [PyData.shown]; exact .of_is (ReprIs.bool b) _ _ _⟩, .inr fun a z => nomatch z⟩
  | .int i, v, u, p, r, rv, e, hs, hz => by
    rw [r.int] at rv
    obtain ⟨t, rfl⟩ := rv
    cases e
    exact ⟨⟨⟨_, .int i t⟩, [], (fun _ z => nomatch z), by simp only [PyData.shown]; exact .of_is (ReprIs.int t (by simpa [PyData.showable] using hs)) _ _ _⟩, .inr fun a z => nomatch z⟩
  | .str x, v, u, p, r, rv, e, hs, hz => by
    rw [r.str] at rv
    obtain ⟨t, rfl⟩ := rv
    cases e
    exact ⟨⟨⟨_, .str x t⟩, [], (fun _ z => nomatch z), by simp only [PyData.shown]; exact .of_is (ReprIs.str x t (by simpa only [PyData.shown] using hz)) _ _ _⟩, .inr fun a z => nomatch z⟩
  | .tup ds, v, u, p, r, rv, e, hs, hz => by
    obtain ⟨a, vs, rfl, q, rs⟩ := Rp.tup rl r
    cases rv
    unfold D.rd at e
    cases e1 : rds ds with
    | none => rw [e1] at e; cases e
    | some ps =>
      rw [e1] at e
      cases e
      have hz' : (tupleText (PyData.shownAll ps)).length ≤ sizeLine := by simpa only [PyData.shown] using hz
      obtain ⟨its, rv, ⟨o, ho, hc, n, hd⟩, _⟩ := I.tuple q
      have z := rkDs I rl ds vs its ps rs rv e1 (by simpa [PyData.showable] using hs) fun t ht => Nat.le_trans (tupleText_mem_le ht) hz'
      obtain ⟨z1, z2⟩ := rk_tup ho hc hd (by simpa using z) hz'
      exact ⟨z1, .inl z2⟩
  | .lst ds, v, u, p, r, rv, e, hs, hz => by
    obtain ⟨a, vs, rfl, q, rs⟩ := Rp.lst rl r
    cases rv
    unfold D.rd at e
    cases e1 : rds ds with
    | none => rw [e1] at e; cases e
    | some ps =>
      rw [e1] at e
      cases e
      have hz' : (listText (PyData.shownAll ps)).length ≤ sizeLine := by simpa only [PyData.shown] using hz
      obtain ⟨its, rv, ⟨o, n, ho, hc, _, hd⟩, _⟩ := I.list (SqL.of q)
      have z := rkDs I rl ds vs its ps rs rv e1 (by simpa [PyData.showable] using hs) fun t ht => Nat.le_trans (listText_mem_le ht) hz'
      obtain ⟨z1, z2⟩ := rk_lst ho hc hd z hz'
      exact ⟨z1, .inl z2⟩
  | .dct kvs, v, u, p, r, rv, e, hs, hz => by
    unfold Rp at r
    obtain ⟨a, ws, rfl, q, rs⟩ := r
    cases rv
    unfold D.rd at e
    cases e1 : rdk kvs with
    | none => rw [e1] at e; cases e
    | some ps =>
      rw [e1] at e
      cases e
      have hz' : (dictText (PyData.shownKv ps)).length ≤ sizeLine := by simpa only [PyData.shown] using hz
      obtain ⟨_, hsm, zs, kv, o, es, ep, ho, hx, hd, _, pr, _⟩ := dk_of I.hok (rl.sub _ _ q)
      obtain ⟨s1, s2⟩ := PyData.showableKv_split ps (by simpa [PyData.showable] using hs)
      obtain ⟨k1, k2⟩ := rkDk I rl kvs ws zs ps es.toList rs kv pr e1 s1 s2 (fun t ht => let ⟨p, hp, hl⟩ := PyData.shownKv_key_le ps t ht; Nat.le_trans hl (Nat.le_trans (dictText_mem_le hp) hz')) (fun t ht => let ⟨p, hp, hl⟩ := PyData.shownKv_val_le ps t ht; Nat.le_trans hl (Nat.le_trans (dictText_mem_le hp) hz'))
      obtain ⟨z1, z2⟩ := rk_dct hsm ho hx.1 hd k1 k2 hz'
      exact ⟨z1, .inl z2⟩
  | .ins _ _, v, u, p, r, rv, e, hs, hz => by cases e
  | .odc, v, u, p, r, rv, e, hs, hz => by cases e
  | .lam, v, u, p, r, rv, e, hs, hz => by cases e
  | .ptr _, v, u, p, r, rv, e, hs, hz => by cases e
  | .obj _, v, u, p, r, rv, e, hs, hz => by cases e
  | .src _, v, u, p, r, rv, e, hs, hz => by cases e
  | .fn _, v, u, p, r, rv, e, hs, hz => by cases e
  | .exc _ _, v, u, p, r, rv, e, hs, hz => by cases e
theorem rkDs (I : Inv X pins σ H s) (rl : Rl X.K T ω S H) : ∀ (ds : List D) (vs : List V) (us : List Value) (ps : List PyData), Rps X.K T ω ds vs → Vals vs us → rds ds = some ps → PyData.showableAll ps = true → (∀ t ∈ PyData.shownAll ps, t.length ≤ sizeLine) → Rks X.prog X.w s.heap us ps
  | [], vs, us, ps, r, rv, e, hs, hz => by
    unfold Rps at r
    subst r
    cases rv
    cases e
    exact Rks.nil
  | d :: ds, vs, us, ps, r, rv, e, hs, hz => by
    unfold Rps at r
    obtain ⟨v, ws, rfl, r1, r2⟩ := r
    cases rv with
    | cons ru rn =>
      unfold rds at e
      cases e1 : d.rd with
      | none => simp [e1] at e
      | some p1 => cases e2 : rds ds with
        | none => simp [e1, e2] at e
        | some p2 =>
          simp [e1, e2] at e
          subst e
          have hs' : p1.showable = true ∧ PyData.showableAll p2 = true := by simpa [PyData.showableAll] using hs
          exact .cons (rkD I rl d v _ p1 r1 ru e1 hs'.1 (hz _ (by simp only [PyData.shownAll]; exact List.mem_cons_self ..))).rk (rkDs I rl ds ws _ p2 r2 rn e2 hs'.2 fun t ht => hz t (by simp only [PyData.shownAll]; exact List.mem_cons_of_mem _ ht))
theorem rkDk (I : Inv X pins σ H s) (rl : Rl X.K T ω S H) : ∀ (kvs : List (Key × D)) (ws : List (Key × V)) (zs : List (Key × Value)) (ps : List (PyData × PyData)) (es : List DictEntry), Rpk X.K T ω kvs ws → KV ws zs → Pairs (mixKind X.prog X.w) es zs → rdk kvs = some ps → PyData.showableAll (ps.map (·.1)) = true → PyData.showableAll (ps.map (·.2)) = true →
    (∀ t ∈ PyData.shownAll (ps.map (·.1)), t.length ≤ sizeLine) → (∀ t ∈ PyData.shownAll (ps.map (·.2)), t.length ≤ sizeLine) → Rks X.prog X.w s.heap (es.map (·.key)) (ps.map (·.1)) ∧ Rks X.prog X.w s.heap (es.map (·.val)) (ps.map (·.2))
  | [], ws, zs, ps, es, r, kv, pr, e, s1, s2, l1, l2 => by
    unfold Rpk at r
    subst r
    cases kv
    cases pr
    cases e
    exact ⟨Rks.nil, Rks.nil⟩
  | (k, d) :: kvs, ws, zs, ps, es, r, kv, pr, e, s1, s2, l1, l2 => by
    unfold Rpk at r
    obtain ⟨v, hs, rfl, r1, r2⟩ := r
    cases kv with
    | cons ru rn =>
      cases pr with
      | cons h1 h2 h3 =>
        unfold rdk at e
        cases e1 : d.rd with
        | none => simp [e1] at e
        | some p1 => cases e2 : rdk kvs with
          | none => simp [e1, e2] at e
          | some p2 =>
            simp only [e1, e2, Option.some.injEq] at e
            subst e
            simp only [List.map_cons, PyData.showableAll, Bool.and_eq_true, PyData.shownAll] at s1 s2 l1 l2
            obtain ⟨q1, q2⟩ := rkDk I rl kvs hs _ p2 _ r2 rn h3 e2 s1.2 s2.2 (fun t ht => l1 t (List.mem_cons_of_mem _ ht)) (fun t ht => l2 t (List.mem_cons_of_mem _ ht))
            obtain ⟨x1, x2⟩ := ru
            simp only at x1 x2
            simp only [List.map_cons]
            rw [← x1] at h1
            rw [h2]
            exact ⟨.cons (rk_key h1 s1.1 (l1 _ (List.mem_cons_self ..))) q1, .cons (rkD I rl d v _ p1 r1 x2 e1 s2.1 (l2 _ (List.mem_cons_self ..))).rk q2⟩
end
def rRepr (K : PySem.W.Frag) : List V → Hp → VK → Prop := fun vs H Qv => ∃ (T : Tb) (ω : Wd) (S : Store) (d : D) (v : V) (p : PyData), vs = [v] ∧ Rl K T ω S H ∧ Rp K T ω d v ∧ d.rd = some p ∧ p.showable = true ∧ p.shown.length ≤ sizeLine ∧ p.depth ≤ 150 ∧ Qv (.str p.shown) H
theorem cr_repr (hu : X.A.units + 200 < cLine) (hg : X.A.guards = some []) : CallR X (.builtin "repr") (rRepr X.K) := by
  intro pins s σ H xs us Qv I r h
  obtain ⟨T, ω, S, d, v, p, rfl, rl, rp, e, hs, hz, hd, q⟩ := h
  obtain ⟨u, rfl, ru⟩ : ∃ u, us = [u] ∧ RelV v u := by
    cases r with
    | cons a b =>
      cases b
      exact ⟨_, rfl, a⟩
  have z := rkD I rl d v u p rp ru e hs hz
  rcases z.sh with ⟨a, Ty, idr, rfl, sl, ⟨o, ho, hc⟩, run⟩ | nr
  · refine call_repr_slot (by omega) ⟨o, ho, hc⟩ sl (run X.A.in1 _ s _ rfl hg (by show X.A.units + 1 + p.depth < cLine; omega) fun h' t tk hk => ⟨_, _, rfl, ?_⟩)
    exact ⟨.str p.shown, H, I.kept hk, ⟨t, rfl⟩, q⟩
  · cases d with
    | non =>
      rw [rp.non] at ru
      cases ru
      cases e
      simp only [PyData.shown] at q
      exact PySem.P.repr_of_none ⟨.str _, H, I.tok _, ⟨_, rfl⟩, q⟩
    | bl b =>
      rw [rp.bl] at ru
      cases ru
      cases e
      simp only [PyData.shown] at q
      exact PySem.P.repr_of_bool ⟨.str _, H, I.tok _, ⟨_, rfl⟩, q⟩
    | int i =>
      rw [rp.int] at ru
      obtain ⟨t, rfl⟩ := ru
      cases e
      simp only [PyData.shown] at q
      exact PySem.P.repr_of_int (by simpa [PyData.showable] using hs) ⟨.str _, H, I.tok _, ⟨_, rfl⟩, q⟩
    | str x =>
      rw [rp.str] at ru
      obtain ⟨t, rfl⟩ := ru
      cases e
      simp only [PyData.shown] at q hz
      exact PySem.P.repr_of_str ⟨.str _, H, I.tok _, ⟨_, rfl⟩, q⟩ hz
    | tup ds =>
      obtain ⟨a, vs, rfl, _⟩ := Rp.tup rl rp
      cases ru
      exact absurd rfl (nr a)
    | lst ds =>
      obtain ⟨a, vs, rfl, _⟩ := Rp.lst rl rp
      cases ru
      exact absurd rfl (nr a)
    | dct ds =>
      unfold Rp at rp
      obtain ⟨a, vs, rfl, _⟩ := rp
      cases ru
      exact absurd rfl (nr a)
    | _ => cases e
end
theorem ok_repr {K : PySem.W.Frag} {T : Tx} : OkN K T (rRepr K) oRepr := by
  intro ω S H xs us Qv rl r q
  unfold oRepr at q
  split at q
  · obtain ⟨v, rfl, r1⟩ := r.one
    split at q
    · rename_i x p hp
      split at q
      · rename_i hc
        simp only [Bool.and_eq_true, decide_eq_true_eq] at hc
        exact ⟨T.toTb, ω, S, _, v, p, rfl, rl, r1, hp, hc.1.1, hc.1.2, hc.2, q.now rl (Rp.mstr _)⟩
      · exact q.elim
    · exact q.elim
  · exact q.elim
end Q
set_option maxHeartbeats 2000000
namespace Q
open PySem PySem.SeqAt AutoSeq1 MeetsSeq
theorem dict_declines (l : Addr) (es : Array DictEntry) (n : Nat) (dd : Option Addr) (sl : Array (Option Value)) (b : Int) (u : Tok) :
    Meets (Builtin.«dict.__eq__» ⟨[.ref l, .int b u], []⟩) (fun _ R s => s.heap.get? l = some { cls := .type "dict", dict := dd, data := .dict es n, slots := sl } ∧ R (.ok (.ret .notImplemented)) s) :=
  .of_wp fun prog w A R s h => by
    obtain ⟨hp, g, d, tk, os⟩ := s
    obtain ⟨hl, h⟩ := h
    have f1 := F.sub_int_dict
    wp_walk using wpAny_loadPart' hl
    exact ⟨_, rfl, h⟩
theorem int_declines_dict (b : Int) (u : Tok) (l : Addr) (es : Array DictEntry) (n : Nat) (dd : Option Addr) (sl : Array (Option Value)) :
    Meets (Builtin.«int.__eq__» ⟨[.int b u, .ref l], []⟩) (fun _ R s => s.heap.get? l = some { cls := .type "dict", dict := dd, data := .dict es n, slots := sl } ∧ R (.ok (.ret .notImplemented)) s) :=
  .of_wp fun prog w A R s h => by
    obtain ⟨hp, g, d, tk, os⟩ := s
    obtain ⟨hl, h⟩ := h
    wp_walk using wpAny_loadPart' hl, wpAny_load hl
    exact ⟨_, rfl, h⟩
theorem rc_dict_int {A : Around} {s : Shared} {l : Addr} {o : Obj} {es : Array DictEntry} {n : Nat} (b : Int) (u : Tok) (ho : s.heap.get? l = some o) (hc : o.cls = .type "dict") (hd : o.data = .dict es n) (hu : A.units < cLine) : RcAt A s (.ref l) (.int b u) false := fun prog w E Q h => by
  obtain ⟨cls, dd, data, sl⟩ := o
  simp only at hc hd
  subst hc hd
  exact rc_eq_decline_or (k := false) ⟨_, ho, rfl⟩ (typeIs_int s b u) (by decide) F.sub_int_dict F.slot_dict_eq F.slot_int_eq_refl (fun _ hq => call_meets F.slot_dict_eq ⟨_, ho, rfl⟩ F.entry_dict_eq (F.args_dict_eq_2 _ _) (dict_declines l es n dd sl b u) ⟨ho, hq⟩)
    (fun _ hq => call_meets F.slot_int_eq_refl (typeIs_int s b u) F.entry_int_eq (F.args_int_eq_2 _ _) (int_declines_dict b u l es n dd sl) ⟨ho, hq⟩) (fun _ hq => wpAny_of_eq (rfl : isSame (.ref l) (.int b u) = pure false) hq) (.inr hu) h
open PySem.Spec PyProof.Rows L2
section
variable {X : Cx}
def rEqK (K : PySem.W.Frag) : R2 := fun x y H Qv => ∃ (a : Addr) (j : Int), x = .ref a ∧ y = .int j ∧ ((∃ vs, SqL K H a vs) ∨ (∃ vs, SqT K H a vs) ∨ ∃ kvs, H a = some (.dK kvs)) ∧ Qv (.bl false) H
theorem op_eqK (hu : X.A.units + 64 < cLine) : OpR X (compareOp .Eq) (rEqK X.K) := by
  intro pins s σ H x y v u Qv I rx ry h
  obtain ⟨a, j, rfl, rfl, hk, q⟩ := h
  cases rx
  obtain ⟨t, rfl⟩ := ry
  have fin : EP X pins σ Qv (.bool false) s := ⟨.bl false, H, I, rfl, q⟩
  rcases hk with ⟨vs, hs⟩ | ⟨vs, hs⟩ | ⟨kvs, hs⟩
  · obtain ⟨its, rv, ⟨o, n, ho, hc, _, hd⟩, _⟩ := I.list hs
    exact RcAt.list_int (items := its.toArray) j t ⟨o, ho, hc, n, hd⟩ (by omega) _ _ _ _ fin
  · obtain ⟨its, rv, ⟨o, ho, hc, n, hd⟩, _⟩ := I.tuple hs
    exact RcAt.tuple_int (items := its.toArray) j t ⟨o, ho, hc, n, hd⟩ (by omega) _ _ _ _ fin
  · obtain ⟨_, hsm, zs, kv, o, es, ep, ho, hx, hd, _⟩ := dk_of I.hok hs
    exact rc_dict_int j t ho hx.1 hd (by omega) _ _ _ _ fin
end
def rEqB (K : PySem.W.Frag) : R2 := fun x y H Qv => rEqK K x y H Qv ∨ rEqA K x y H Qv
theorem or_eqK {X : Cx} (hu : X.A.units + 64 < cLine) : OpR X (compareOp .Eq) (rEqB X.K) := (op_eqK hu).or (or_eq hu)
theorem ok_eqK {K : PySem.W.Frag} {T : Tx} : Ok2 K T (rEqB K) oEqK := by
  intro ω S H x y u v Qv rl rx ry q
  unfold oEqK at q
  split at q
  · obtain ⟨a, vs, rfl, h, _⟩ := Rp.tup rl rx
    exact .inl ⟨a, _, rfl, ry.int, .inr (.inl ⟨vs, h⟩), q.now rl (Rp.mbl _)⟩
  · obtain ⟨a, vs, rfl, h, _⟩ := Rp.lst rl rx
    exact .inl ⟨a, _, rfl, ry.int, .inl ⟨vs, SqL.of h⟩, q.now rl (Rp.mbl _)⟩
  · unfold Rp at rx
    obtain ⟨a, vs, rfl, h, _⟩ := rx
    exact .inl ⟨a, _, rfl, ry.int, .inr (.inr ⟨vs, rl.sub _ _ h⟩), q.now rl (Rp.mbl _)⟩
  · exact .inr (ok_eq ω S H x y u v Qv rl rx ry q)
end Q
set_option maxHeartbeats 2000000
namespace Q
open PySem PySem.Spec PyProof.Rows L2
section
variable {P : Program} {w : World} {A : Around} {E : Value → Shared → Prop} {s : Shared}
theorem srtSet_any {a : Addr} {M : Int → Bool} {n : Nat} {Qq : Value → Shared → Prop} (Z : SetR w s.heap a M n) (hA : A.handled = none)
    (k : ∀ s' p (xs : Array Value) (c : Nat) (ns : List Int), (∀ b o, s.heap.get? b = some o → s'.heap.get? b = some o) → s'.gens = s.gens → s'.os = s.os → s.heap.objs.size ≤ p →
      s'.heap.get? p = some (seqObj "list" xs c) → IntsAre xs.toList ns → ns.Pairwise (· < ·) → (∀ j, j ∈ ns ↔ M j = true) → ns.length = n → Qq (.ref p) s') :
    wpAny (model P w) A (call (.builtin "sorted") [.ref a]) Qq E s := by
  obtain ⟨ob, es, ep, tb, hob, hex, hdt, gd, nd, mem, few, fit, num, ris, led⟩ := Z
  refine Calls.call_function_entry kind_sorted plain_sorted entry_sorted (args_sorted1 _) ?_
  unfold Builtin.«sorted»
  refine wpAny_bind (m := checkCount "sorted" 1 1 _) (wpAny_pure ?_)
  refine wpAny_bind (collect_set (A := A.in1) hA ⟨ob, hob, hex.1, hdt⟩ fit few ris led fun s1 us kp _ g1 o1 pm => ?_)
  have ul : us.length = n := by rw [pm.length_eq, List.length_map, Array.length_toList]; exact num
  have ui : IntsAre us (us.map Builtin.Re.reRawOf) := ints_of us fun u hu => by
    obtain ⟨e, he, rfl⟩ := List.mem_map.mp (pm.mem_iff.mp hu)
    obtain ⟨j, tk, h1, _⟩ := gd e he
    exact ⟨j, tk, h1⟩
  have pj : (us.map Builtin.Re.reRawOf).Perm (es.toList.map keyOf) := by
    have := pm.map Builtin.Re.reRawOf
    rw [List.map_map] at this
    exact this
  have small : us.length ≤ sizeLine := by
    rw [ul, ← num, sizeLine_eq]
    have : scanBound = 4096 := rfl
    omega
  refine wpAny_bind (wpAny_newList ?_ small)
  have at1 : (s1.heap.push (seqObj "list" us.toArray 0)).get? s1.heap.objs.size = some (seqObj "list" us.toArray 0) := Heap.get?_push_size _ rfl
  refine wpAny_bind (wpAny_holding (wpAny_call_entry slot_list_sort ⟨_, at1, rfl⟩ entry_list_sort (list_sort_treeAny at1 ui small fun xs ns b1 b2 b3 => ⟨_, rfl, ?_⟩) (args_list_sort _)))
  obtain ⟨c, hc⟩ := sortedHeap_at (vs := us) (out := xs) at1
  have pn : ns.Perm (es.toList.map keyOf) := b2.trans pj
  refine wpAny_pure ⟨_, rfl, k _ s1.heap.objs.size xs c ns (fun b u e => ?_) g1 o1 ?_ hc b1 (lt_of_le_nodup ns b3 (pn.nodup_iff.mpr nd)) (fun j => by rw [pn.mem_iff, ← mem j]) ?_⟩
  · have q := kp b u e
    have lt := Heap.lt_size q
    show (sortedHeap (s1.heap.push (seqObj "list" us.toArray 0)) s1.heap.objs.size us xs).get? b = some u
    rw [sortedHeap_old (Nat.ne_of_lt lt) (by rw [size_push']; exact Nat.lt_succ_of_lt lt)]
    exact Heap.get?_push_of_some _ q
  · assumption
  · rw [pn.length_eq, List.length_map, Array.length_toList]; exact num
end
section
variable {X : Cx}
def rSrtSet (w : World) : List V → Hp → VK → Prop := fun vs H Qv => ∃ (a : Addr) (M : Int → Bool) (n : Nat), vs = [V.ref a] ∧ H a = some (SetO w a M n) ∧ n < scanBound ∧
  ∀ (ns : List Int) (p : Addr), ns.Pairwise (· < ·) → (∀ j : Int, j ∈ ns ↔ M j = true) → H p = none → Qv (.ref p) (upd H p (.lst (ns.map V.int)))
theorem cr_srtSet (hc : X.calm = true) : CallR X (.builtin "sorted") (rSrtSet X.w) := by
  intro pins s σ H vs us Qv I r h
  obtain ⟨a, M, n, rfl, ha, few, q⟩ := h
  rw [Vals.ref1 r]
  refine srtSet_any (setO_get I ha) (I.ok.hd hc) fun s' p xs c ns keep g o hp hg hi hs hm hl => ?_
  have z : (ns.map V.int).length ≤ sizeLine := by
    rw [List.length_map, hl, sizeLine_eq]
    have : scanBound = 4096 := rfl
    omega
  have free : H p = none := I.hok.fresh hp
  have J : Inv X pins σ (upd H p (.lst (ns.map V.int))) { s with heap := s'.heap, gens := s'.gens, drawn := s'.drawn, toks := s'.toks } :=
    I.call (ch := []) (Un.laid keep hp free) (I.hok.laid keep hp ⟨z, xs.toList, c, vals_of_ints hi, hg⟩) (by rw [g]; exact I.bare) (fun _ z => nomatch z)
  have same : s' = { s with heap := s'.heap, gens := s'.gens, drawn := s'.drawn, toks := s'.toks } := by
    cases s'; cases s; cases o; rfl
  rw [same]
  exact ⟨.ref p, _, J, rfl, q ns p hs hm free⟩
theorem addI_ok {pins : List (Addr × Obj)} {σ : L2.St} {H : Hp} {s : Shared} {E : Value → Shared → Prop} {D : Addr} {M : Int → Bool} {n : Nat} {y : Int} {u : Value} {Qq : Value → Shared → Prop} (I : Inv X pins σ H s) (hD : H D = some (SetO X.w D M n)) (room : n + 1 < scanBound) (hu : RelV (.int y) u)
    (k : ∀ s', Inv X pins σ (upd H D (SetO X.w D (fun j => M j || decide (j = y)) (if M y = true then n else n + 1))) s' → Qq .none s') : wpAny (model X.prog X.w) X.A (call (.builtin "set.add") [.ref D, u]) Qq E s := by
  obtain ⟨tk, rfl⟩ := hu
  refine setR_add (setO_get I hD) room fun h' sb new => k _ ?_
  refine I.write (e := D) (t' := s.toks + 1) (by rw [hD]; trivial) (.inl rfl) (fun b u hb hu => (sb.2 b hb).trans hu) ?_ (setO_new new)
  have ⟨o, _, _, _, ho, _⟩ := new
  exact ⟨o, ho⟩
def tScI (w : World) (wi : TI) (g : TG) (tt : TT) (te : L2.TE) (vs : List Nat) : L2.TE := fun σ H Qv => wi σ H fun J H1 => ∀ D, H1 D = none → ∃ Wf : Nat → Nat → Hp → Prop, (∃ m, Wf 0 m (upd H1 D (SetO w D (fun _ => false) 0))) ∧ ∀ i m H, Wf i m H →
  (J.stop i H ∧ Qv (.ref D) H) ∨ (J.go i H ∧ ∃ Nx : Hp → Prop, (∀ H', Nx H' → ∃ m', m' < m ∧ Wf (i + 1) m' H') ∧ ∀ x H', J.yld i H x H' → g x (wipe σ vs) H' fun σ2 H2 => wipe σ2 vs = wipe σ vs ∧ tt σ2 H2 fun b H3 =>
    if b = true then te σ2 H3 fun y H4 => ∃ (c : Int) (M : Int → Bool) (n : Nat), y = .int c ∧ H4 D = some (SetO w D M n) ∧ n + 1 < scanBound ∧ ((∃ h, SetR w h D M n) → Nx (upd H4 D (SetO w D (fun j => M j || decide (j = c)) (if M c = true then n else n + 1)))) else Nx H3)
theorem scI_core {pins : List (Addr × Obj)} {s : Shared} {σ : L2.St} {H : Hp} {Qv : VK} {elt tg iter : Expr} {ifs : List Expr} {scope : Scope} {own : List (PySem.Str × Nat)} {pos pos' : Pos} {wi : TI} {g : TG} {tt : TT} {te : L2.TE} {use : Option (Value → Sem Unit)} {Qf : Value → Shared → Prop}
    (calm : X.calm = true) (nod : X.N.Nodup) (I : Inv X pins σ H s) (pi : PI X tg iter wi) (bo : BlkOk X.N X.env.scope scope own)
    (hg : ∀ (s : Shared) (H : Hp) (C : Addr) (cl : List (PySem.Str × Addr)) (fp : List Addr), PG (X.blk s H scope (compEnvC scope cl C X.env) fp) tg g) (ht : ∀ (s : Shared) (H : Hp) (C : Addr) (cl : List (PySem.Str × Addr)) (fp : List Addr), PTs (X.blk s H scope (compEnvC scope cl C X.env) fp) ifs tt)
    (he : ∀ (s : Shared) (H : Hp) (C : Addr) (cl : List (PySem.Str × Addr)) (fp : List Addr), PE (X.blk s H scope (compEnvC scope cl C X.env) fp) elt te) (fold : ∀ x, foldedSetIterable iter X.env x = pure x)
    (walk : tScI X.w wi g tt te (own.map (·.2)) σ H Qv)
    (fin : ∀ D C s' m H', Inv X pins σ H' s' → Qv (.ref D) H' → s'.heap.Ns C m → FpOk X pins H' C → compPost (model X.prog X.w) X.A X.xe use Qf (.ref D) C (.ok .next) s') :
    wpAny (model X.prog X.w) X.A (comprehension (.SetComp elt [⟨tg, iter, ifs, 0⟩] scope pos) scope X.env pos' (newSet (.type "set")) false (eval iter X.env) use) Qf X.xe s := by
  have cells : ∀ y ∈ scope.names, y.2 = .free → ∃ c, X.env.cells.lookup y.1 = some c := fun y hy e => (bo.free y hy e).elim (fun z => I.ok.has _ (.inl z)) fun z => I.ok.has _ (.inr z)
  refine wpAny_comprehension_free (use := use) rfl fold (closure_ok cells) bo.kind (fun y hy e => by rw [bo.uniq y hy, e])
    (thn (pi.run pins s σ H _ I walk) fun _ _ z => thn z fun itv s2 z2 => ?_)
  obtain ⟨it, fp, tn, J, H2, rfl, I2, T, st2, f2, q⟩ := z2
  refine PpSet.newSet_ok (newEnv_comp ?_)
  generalize hD : s2.heap.objs.size = D
  obtain ⟨Wf, ⟨m0, w0⟩, turn⟩ := q D (I2.hok.fresh (Nat.le_of_eq hD))
  generalize hs3 : ({ s2 with heap := s2.heap.push { cls := .type "set", dict := none, data := .set #[] 0 (.fresh 0 0 (!X.w.params.followText "set-order")) } } : Shared) = s3
  have h3 : s3.heap = s2.heap.push { cls := .type "set", dict := none, data := .set #[] 0 (.fresh 0 0 (!X.w.params.followText "set-order")) } := by rw [← hs3]
  have I3 : Inv X pins σ (upd H2 D (SetO X.w D (fun _ => false) 0)) s3 := by
    rw [← hs3]
    refine I2.laid (t' := s2.toks) (fun b o e => Heap.get?_push_of_some _ e) (Nat.le_of_eq hD) ?_
    rw [← hD]
    exact setO_new (setR_fresh X.w)
  have low : ∀ b ∈ fp, b < s2.heap.objs.size := fun b hb => let ⟨_, e, _⟩ := T.obj _ _ st2 b hb; Heap.lt_size e
  have f3 : ∀ b ∈ fp, FpOk X pins (upd H2 D (SetO X.w D (fun _ => false) 0)) b ∧ b < s3.heap.objs.size := fun b hb => by
    refine ⟨⟨?_, (f2 b hb).2⟩, by rw [h3, Heap.size_push]; exact Nat.lt_succ_of_lt (low b hb)⟩
    rw [upd_ne (by rw [← hD]; exact Nat.ne_of_lt (low b hb))]
    exact (f2 b hb).1
  have st3 : tn 0 s3.heap := T.keep _ _ _ st2 fun b _ o e => by rw [h3]; exact Heap.get?_push_of_some _ e
  have I4 := block_start I3 bo nod f3
  have Pg := hg s3 (upd H2 D (SetO X.w D (fun _ => false) 0)) s3.heap.objs.size (cellsFrom (s3.heap.objs.size + 1) scope.names (cloFrom X.env.cells scope.names [])) fp
  have Pt := ht s3 (upd H2 D (SetO X.w D (fun _ => false) 0)) s3.heap.objs.size (cellsFrom (s3.heap.objs.size + 1) scope.names (cloFrom X.env.cells scope.names [])) fp
  have Pe := he s3 (upd H2 D (SetO X.w D (fun _ => false) 0)) s3.heap.objs.size (cellsFrom (s3.heap.objs.size + 1) scope.names (cloFrom X.env.cells scope.names [])) fp
  show codeAny _ _ (.compStart (.SetComp elt [⟨tg, iter, ifs, 0⟩] scope pos) 0 (.ref it) (.ref D) (compEnvC scope (cellsFrom (s3.heap.objs.size + 1) scope.names (cloFrom X.env.cells scope.names [])) s3.heap.objs.size X.env)) (compPost (model X.prog X.w) X.A X.xe use Qf (.ref D) s3.heap.objs.size) { s3 with heap := pushCells (s3.heap.push { cls := .type "dict", data := .dict #[] }) scope.names }
  have none3 : ∀ b ∈ fp, (upd H2 D (SetO X.w D (fun _ => false) 0)) b = none := fun b hb => (f3 b hb).1.1
  generalize hce : compEnvC scope (cellsFrom (s3.heap.objs.size + 1) scope.names (cloFrom X.env.cells scope.names [])) s3.heap.objs.size X.env = ce at I4 Pg Pt Pe ⊢
  have loc : ce.locals = s3.heap.objs.size := by subst hce; rfl
  generalize hH3 : upd H2 D (SetO X.w D (fun _ => false) 0) = H3 at I3 I4 Pg Pt Pe w0 none3 f3
  generalize hs4 : ({ s3 with heap := pushCells (s3.heap.push { cls := .type "dict", data := .dict #[] }) scope.names } : Shared) = s4 at I4 ⊢
  have st4 : tn 0 s4.heap := T.keep _ _ _ st3 fun b _ o e => by rw [← hs4]; exact pushCells_keeps _ _ _ _ (Heap.get?_push_of_some _ e)
  have stat : ∀ {σ' : L2.St} {H' : Hp} {s' : Shared}, Inv (X.blk s3 H3 scope ce fp) [] σ' H' s' → (∀ b ∈ fp, H' b = none) → ∀ b ∈ fp, FpOk (X.blk s3 H3 scope ce fp) [] H' b := fun {σ' H' s'} I' hn b hb =>
    ⟨hn b hb, (I'.ok.exf b hb).1, I'.ok.exfs b hb, .inl hb, fun x c e => (I'.ok.exf b hb).2 x c e, fun p hp => absurd (show p ∈ ([] : List (Addr × Obj)) ++ [] from hp) (by simp)⟩
  have loop : codeAny (model X.prog X.w) X.A (.compLoop (.SetComp elt [⟨tg, iter, ifs, 0⟩] scope pos) 0 (.ref it) (.ref D) ce) (compPost (model X.prog X.w) X.A X.xe use Qf (.ref D) s3.heap.objs.size) s4 := by
    refine PpSet.compLoopS_any (fun n s' => ∃ i H', Inv (X.blk s3 H3 scope ce fp) [] (wipe σ (own.map (·.2))) H' s' ∧ tn i s'.heap ∧ (∀ b ∈ fp, H' b = none) ∧ Wf i n H') ?_ m0 ⟨0, H3, I4, st4, none3, w0⟩
    rintro n s5 ⟨i, H5, I5, st5, n5, w5⟩
    rcases turn i n H5 w5 with ⟨stop, qq⟩ | ⟨go, Nx, hNx, step⟩
    · refine thnF (T.done (X.blk s3 H3 scope ce fp) rfl rfl rfl calm i [] s5 _ H5 (fun _ _ => False) I5 (stat I5 n5) st5 stop) fun r s6 ⟨hr, I6⟩ => ?_
      subst hr
      have I7 : Inv X pins σ H5 s6 := I3.call' (ch := fp) I6.os I6.base I6.hok I6.bare fun b hb => ⟨(f3 b hb).1.2.2.2.1, (f3 b hb).1.2.1, (f3 b hb).1.2.2.2.2.1, (f3 b hb).1.2.2.2.2.2⟩
      have nC : H5 s3.heap.objs.size = none := loc ▸ (I6.free : H5 ce.locals = none)
      obtain ⟨m, hn, _⟩ := I6.loc
      have hn : s6.heap.Ns ce.locals m := hn
      rw [loc] at hn
      exact fin D s3.heap.objs.size s6 m H5 I7 qq hn (I3.fpOk (Nat.le_refl _) nC)
    · refine thnF (T.item (X.blk s3 H3 scope ce fp) rfl rfl rfl calm i [] s5 _ H5 (fun _ _ => False) I5 (stat I5 n5) st5 go) fun r s6 ⟨u, hr, h6⟩ => ?_
      subst hr
      refine thnF h6 fun _ s7 ⟨x, H7, I7, r7, y7, st7, n7⟩ => ?_
      have I7' := I7.pinned (stat I7 n7) (T.obj _ _ st7)
      refine thnF (Pg.run _ s7 _ H7 x u _ I7' r7 (step x H7 y7)) fun _ s8 ⟨σ8, H8, I8, hw8, q8⟩ => ?_
      refine thnF (Pt.run _ s8 σ8 H8 _ I8 q8) fun b s9 ⟨H9, I9, q9⟩ => ?_
      have behind : ∀ {s' : Shared} {H' : Hp}, Inv (X.blk s3 H3 scope ce fp) ([] ++ pinsAt fp s7.heap) σ8 H' s' → Nx H' → ∃ m, m < n ∧ ∃ i H', Inv (X.blk s3 H3 scope ce fp) [] (wipe σ (own.map (·.2))) H' s' ∧ tn i s'.heap ∧ (∀ b ∈ fp, H' b = none) ∧ Wf i m H' := fun {s' H'} I' nx => by
        obtain ⟨m', hm, w'⟩ := hNx H' nx
        have kept : ∀ b ∈ fp, ∀ o, s7.heap.get? b = some o → s'.heap.get? b = some o ∧ H' b = none := fun b hb o e =>
          let z := I'.pin (b, o) (List.mem_append_right _ (List.mem_append_right _ (mem_pinsAt hb e)))
          ⟨z.1, z.2.1⟩
        refine ⟨m', hm, i + 1, H', (I'.unpinned (pins := [])).weak (by rw [← hw8, wipe_length]) (fun j v e => ?_), T.keep _ _ _ st7 fun b hb o e => (kept b hb o e).1, fun b hb => ?_, w'⟩
        · rw [← hw8] at e
          exact (wipe_some e).1
        · obtain ⟨o, e, _⟩ := T.obj _ _ st7 b hb
          exact (kept b hb o e).2
      cases b with
      | false =>
        simp only [Bool.false_eq_true, if_false] at q9 ⊢
        exact behind I9 q9
      | true =>
        simp only [if_true] at q9 ⊢
        refine thnF (Pe.run _ s9 σ8 H9 _ I9 q9) fun z s10 ⟨yv, H10, I10, r10, cb, M0, n0, ey, hD10, hz10, nx⟩ => ?_
        subst ey
        exact addI_ok (X := X.blk s3 H3 scope ce fp) I10 hD10 hz10 r10 fun s11 I11 => behind I11 (nx ⟨_, setO_get (X := X.blk s3 H3 scope ce fp) I10 hD10⟩)
  exact PpSet.codeAny_compStart_set loop (T.self X.A 0 _ _ _ st4 loop)
theorem pe_scI {elt tg iter : Expr} {ifs : List Expr} {scope : Scope} {own : List (PySem.Str × Nat)} {pos : Pos} {wi : TI} {g : TG} {tt : TT} {te : L2.TE} (calm : X.calm = true) (nod : X.N.Nodup) (pi : PI X tg iter wi) (bo : BlkOk X.N X.env.scope scope own)
    (hg : ∀ (s : Shared) (H : Hp) (C : Addr) (cl : List (PySem.Str × Addr)) (fp : List Addr), PG (X.blk s H scope (compEnvC scope cl C X.env) fp) tg g) (ht : ∀ (s : Shared) (H : Hp) (C : Addr) (cl : List (PySem.Str × Addr)) (fp : List Addr), PTs (X.blk s H scope (compEnvC scope cl C X.env) fp) ifs tt)
    (he : ∀ (s : Shared) (H : Hp) (C : Addr) (cl : List (PySem.Str × Addr)) (fp : List Addr), PE (X.blk s H scope (compEnvC scope cl C X.env) fp) elt te) (fold : ∀ x, foldedSetIterable iter X.env x = pure x := by intro _; rfl) :
    PE X (.SetComp elt [⟨tg, iter, ifs, 0⟩] scope pos) (tScI X.w wi g tt te (own.map (·.2))) := by
  refine ⟨fun pins s σ H Qv I h => ?_⟩
  rw [PpSet.eval_SetComp]
  refine scI_core calm nod I pi bo hg ht he fold h fun D C s' m H' I' q hn ⟨f0, f1, f2, f3, f4, f5⟩ => ⟨m, hn, fun h'' sb => ?_⟩
  exact ⟨.ref D, H', I'.turned (t' := s'.toks) (fun b o hb e => (sb.2 b hb).trans e) f0 f1 f3 f4 f5, rfl, q⟩
end
theorem mem_insU {k j : Int} : ∀ {xs : List Int}, j ∈ insU k xs ↔ j = k ∨ j ∈ xs
  | [] => by simp [insU]
  | x :: xs => by
    unfold insU
    split
    · simp
    · split
      · rename_i h; subst h; simp
      · simp [mem_insU (xs := xs)]
        constructor
        · rintro (h | h | h)
          · exact .inr (.inl h)
          · exact .inl h
          · exact .inr (.inr h)
        · rintro (h | h | h)
          · exact .inr (.inl h)
          · exact .inl h
          · exact .inr (.inr h)
theorem mem_srtU {j : Int} : ∀ {xs : List Int}, j ∈ srtU xs ↔ j ∈ xs
  | [] => by simp [srtU]
  | k :: ks => by unfold srtU; rw [mem_insU, mem_srtU]; simp
theorem asc_insU {k : Int} : ∀ {xs : List Int}, xs.Pairwise (· < ·) → (insU k xs).Pairwise (· < ·)
  | [], _ => by simp [insU]
  | x :: xs, h => by
    obtain ⟨h1, h2⟩ := List.pairwise_cons.mp h
    unfold insU
    split
    · refine List.pairwise_cons.mpr ⟨fun y hy => ?_, h⟩
      rcases List.mem_cons.mp hy with rfl | z
      · assumption
      · have := h1 y z; omega
    · split
      · exact h
      · refine List.pairwise_cons.mpr ⟨fun y hy => ?_, asc_insU h2⟩
        rcases mem_insU.mp hy with rfl | z
        · omega
        · exact h1 y z
theorem asc_srtU : ∀ {xs : List Int}, (srtU xs).Pairwise (· < ·)
  | [] => by simp [srtU]
  | k :: ks => by unfold srtU; exact asc_insU asc_srtU
theorem asc_uniq : ∀ {xs ys : List Int}, xs.Pairwise (· < ·) → ys.Pairwise (· < ·) → (∀ j, j ∈ xs ↔ j ∈ ys) → xs = ys
  | [], [], _, _, _ => rfl
  | [], y :: ys, _, _, h => absurd ((h y).mpr (by simp)) (by simp)
  | x :: xs, [], _, _, h => absurd ((h x).mp (by simp)) (by simp)
  | x :: xs, y :: ys, a, b, h => by
    obtain ⟨a1, a2⟩ := List.pairwise_cons.mp a
    obtain ⟨b1, b2⟩ := List.pairwise_cons.mp b
    have e : x = y := by
      rcases List.mem_cons.mp ((h x).mp (by simp)) with z | z
      · exact z
      · rcases List.mem_cons.mp ((h y).mpr (by simp)) with z2 | z2
        · exact z2.symm
        · have := a1 y z2; have := b1 x z; omega
    subst e
    rw [asc_uniq a2 b2 fun j => ?_]
    constructor
    · intro hj
      rcases List.mem_cons.mp ((h j).mp (List.mem_cons_of_mem _ hj)) with z | z
      · have := a1 j hj; omega
      · exact z
    · intro hj
      rcases List.mem_cons.mp ((h j).mpr (List.mem_cons_of_mem _ hj)) with z | z
      · have := b1 j hj; omega
      · exact z
def Loose (H : Hp) (A : Addr) : Prop := (∀ ps, H A ≠ some (.tbl ps)) ∧ ∀ q, H A ≠ some (LamX.CodeO A q)
theorem Loose.none {H : Hp} {A : Addr} (h : H A = none) : Loose H A := ⟨fun ps z => (by rw [h] at z; cases z), fun q z => (by rw [h] at z; cases z)⟩
theorem Loose.set {w : World} {H : Hp} {A : Addr} {M : Int → Bool} {n : Nat} (h : H A = some (SetO w A M n)) (x : ∃ h, SetR w h A M n) : Loose H A := by
  refine ⟨fun ps z => (by rw [h] at z; unfold SetO at z; cases z), fun q z => ?_⟩
  obtain ⟨hp, r⟩ := x
  rw [h] at z
  unfold SetO LamX.CodeO at z
  injection z with z
  injection z with z
  have r' := r
  rw [congrFun z hp] at r'
  obtain ⟨oc, vs, t, e1, e2, _⟩ := r'
  obtain ⟨o, es, ep, tb, e3, _, e4, _⟩ := r
  rw [e1] at e3
  cases e3
  rw [e2] at e4
  cases e4
theorem tabs_putX {T : List (Addr × Str)} {H : Hp} {A : Addr} {o : HO} (t : LamX.Tabs T H) (h : Loose H A) : LamX.Tabs T (upd H A o) := fun p hp => by
  obtain ⟨ps, h1, h2, h3⟩ := t p hp
  refine ⟨ps, by rw [upd_ne fun z => h.1 ps (by rw [z] at h1; exact h1)]; exact h1, h2, fun pos cv hc => ?_⟩
  obtain ⟨c, e1, e2⟩ := h3 pos cv hc
  exact ⟨c, e1, by rw [upd_ne fun z => h.2 _ (by rw [z] at e2; exact e2)]; exact e2⟩
theorem lamcs_putX {T : Tb} {F H : Hp} {A : Addr} {o : HO} (t : LamCs T F H) (h : Loose H A) : LamCs T F (upd H A o) := fun I hI f hf => by
  obtain ⟨c, e1, e2⟩ := t I hI f hf
  exact ⟨c, e1, by rw [upd_ne fun z => h.2 _ (by rw [z] at e2; exact e2)]; exact e2⟩
theorem Own.not_updX {T : Tx} {K : PySem.W.Frag} {ω : Wd} {S : Store} {H : Hp} {A : Addr} {o : HO} (rl : Rl K T.toTb ω S H) (n : ¬ Own ω S A) (hA : Loose H A) : Rl K T.toTb ω S (upd H A o) := by
  refine ⟨⟨fun b q h => ?_, rl.len, fun k ds h => ?_, rl.inj, rl.lenO, fun k v h => ?_, rl.injO, rl.nt, ⟨tabs_putX rl.tab.1 hA, lamcs_putX rl.tab.2 hA⟩⟩, fun p hp => ⟨(rl.pinned p hp).1, ?_⟩⟩
  · rw [upd_ne fun z => n (.inl ⟨q, by rw [← z]; exact h⟩)]; exact rl.sub _ _ h
  · obtain ⟨a1, a2, vs, a3, a4⟩ := rl.obj k ds h
    exact ⟨a1, a2, vs, by rw [upd_ne fun z => n (.inr (.inl ⟨k, ds, h, z⟩))]; exact a3, a4⟩
  · obtain ⟨a1, a2, o2, a3, a4⟩ := rl.objO k v h
    have hk : k < ω.m := by rw [← rl.lenO]; exact (List.getElem?_eq_some_iff.mp h).1
    exact ⟨a1, a2, o2, by rw [upd_ne fun z => n (.inr (.inr ⟨k, hk, z⟩))]; exact a3, a4⟩
  · have h2 := (rl.pinned p hp).2
    rw [upd_ne fun z => hA.2 _ (by rw [z] at h2; exact h2)]
    exact h2
theorem sc_it {w : World} {J : It} {n : Nat} {G : Hp → Prop} {Y : Nat → Hp → V → Hp → Prop} (wk : Walk J n G Y) {g : TG} {tt : TT} {te : L2.TE} {vs : List Nat} {σ : L2.St} {H1 : Hp} {D : Addr} {Qd : Hp → Prop} (Pv : Nat → Hp → Prop) (h0 : Pv 0 (upd H1 D (SetO w D (fun _ => false) 0))) (hG : ∀ i H, i ≤ n → Pv i H → G H)
    (hs : ∀ i x H H', i < n → Pv i H → Y i H x H' → g x (L2.wipe σ vs) H' fun σ2 H2 => L2.wipe σ2 vs = L2.wipe σ vs ∧ tt σ2 H2 fun b H3 =>
      if b = true then te σ2 H3 fun y H4 => ∃ (c : Int) (M : Int → Bool) (k : Nat), y = .int c ∧ H4 D = some (SetO w D M k) ∧ k + 1 < scanBound ∧ ((∃ h, SetR w h D M k) → Pv (i + 1) (upd H4 D (SetO w D (fun j => M j || decide (j = c)) (if M c = true then k else k + 1)))) else Pv (i + 1) H3) (hd : ∀ H, Pv n H → Qd H) :
    ∃ Wf : Nat → Nat → Hp → Prop, (∃ m, Wf 0 m (upd H1 D (SetO w D (fun _ => false) 0))) ∧ ∀ i m H, Wf i m H →
      (J.stop i H ∧ Qd H) ∨ (J.go i H ∧ ∃ Nx : Hp → Prop, (∀ H', Nx H' → ∃ m', m' < m ∧ Wf (i + 1) m' H') ∧ ∀ x H', J.yld i H x H' → g x (L2.wipe σ vs) H' fun σ2 H2 => L2.wipe σ2 vs = L2.wipe σ vs ∧ tt σ2 H2 fun b H3 =>
        if b = true then te σ2 H3 fun y H4 => ∃ (c : Int) (M : Int → Bool) (k : Nat), y = .int c ∧ H4 D = some (SetO w D M k) ∧ k + 1 < scanBound ∧ ((∃ h, SetR w h D M k) → Nx (upd H4 D (SetO w D (fun j => M j || decide (j = c)) (if M c = true then k else k + 1)))) else Nx H3) := by
  refine ⟨fun i m H => m = n - i ∧ i ≤ n ∧ Pv i H, ⟨n, by simp, Nat.zero_le _, h0⟩, ?_⟩
  rintro i m H ⟨rfl, hi, p⟩
  have q := hG i H hi p
  by_cases lt : i < n
  · exact .inr ⟨wk.goes i H lt q, Pv (i + 1), fun H' p' => ⟨n - (i + 1), by omega, rfl, lt, p'⟩, fun x H' y => hs i x H H' lt p (wk.yields i H x H' lt q y)⟩
  · have e : i = n := by omega
    subst e
    exact .inl ⟨wk.stops H q, hd H p⟩
section
variable {X : Cx} {T : Tx} {W : WX} {tg : Expr} {pos : Pos}
theorem wipe_twice {σ : L2.St} (vs : List Nat) : L2.wipe (L2.wipe σ vs) vs = L2.wipe σ vs := by
  have idem : ∀ (ws : List Nat) (τ : L2.St), (∀ i ∈ ws, τ[i]? = none ∨ τ[i]? = some none) → L2.wipe τ ws = τ := by
    intro ws
    induction ws with
    | nil => intro τ _; rfl
    | cons w ws ih =>
      intro τ hτ
      unfold L2.wipe
      rw [ih τ fun i hi => hτ i (List.mem_cons_of_mem _ hi)]
      rcases hτ w List.mem_cons_self with z | z
      · exact List.set_eq_of_length_le (List.getElem?_eq_none_iff.mp z)
      · obtain ⟨h1, h2⟩ := List.getElem?_eq_some_iff.mp z
        rw [← h2, List.set_getElem_self]
  refine idem vs _ fun i hi => ?_
  cases z : (L2.wipe σ vs)[i]? with
  | none => exact .inl rfl
  | some o => cases o with
    | none => exact .inr rfl
    | some v => exact absurd hi (wipe_some z).2
theorem scI_ok {vs : List Nat} {p : Pat} {src : Src} {t e : Q.TE} (calm : X.calm = true) (hin : ∀ i ∈ p.slots, i ∈ vs) (σ : L2.St) (H : Hp) (Qv : VK) (h : tEr X.K T W (eSrtS vs p src t e) σ H Qv) :
    tScI X.w (tIr X.K T W src) (tGr X.K T p) (tTr X.K T Wn t) (tEr X.K T Wn e) vs σ H (fun v H1 => rSrtSet X.w [v] H1 Qv) := by
  obtain ⟨s, S, ω, rl, rs, q⟩ := h
  refine ⟨s, S, ω, rl, rs, (EPg.bind q).mono ?_⟩
  rintro J H1 ⟨ω1, S1, ds, e1, rl1, ⟨G, Y, wk, gG, gY⟩, q1⟩
  intro A hA
  have nA := own_of rl1 hA
  have rs1 : Rs X.K T.toTb ω1 (wipeS s vs) (L2.wipe σ vs) := (rs.ext e1).wipe vs
  refine sc_it wk (fun i H => ∃ S2 ω2 acc M n, Ext ω1 S1 H1 ω2 S2 H ∧ Rl X.K T.toTb ω2 S2 H ∧ ¬ Own ω2 S2 A ∧ H A = some (SetO X.w A M n) ∧ (∀ j : Int, M j = true ↔ j ∈ acc) ∧ n ≤ acc.length ∧ n < scanBound ∧ EPg X.K T (Rp X.K T.toTb) W σ ω1 S1 H1 ((scL p t e (wipeS s vs) (ds.drop i) acc S2).bind fun ns S3 => .ok (.lst ((srtU ns).map .int)) S3) Qv)
    ⟨S1, ω1, [], fun _ => false, 0, Ext.refl.upd_out hA, Own.not_updX rl1 nA (.none hA), nA, upd_same, fun j => by simp, by simp, by decide, q1⟩ (fun i H _ ⟨S2, ω2, acc, M, n, x1, x2, _⟩ => gG H (x1.fix.trans x2.sub)) ?_ ?_
  · rintro i x H2 H3 hi ⟨S2, ω2, acc, M, n, x1, x2, x3, x4, x5, x6, x7, q2⟩ y
    obtain ⟨d, hd⟩ : ∃ d, ds[i]? = some d := ⟨ds[i], by simp [hi]⟩
    obtain ⟨ω3, e3, rl3, r3⟩ := gY i d ω2 S2 H2 x H3 hd x1.later x2 y
    have ntb : ∀ (M : Int → Bool) (n : Nat) ps, SetO X.w A M n ≠ .tbl ps := fun M n ps z => by unfold SetO at z; cases z
    obtain ⟨x4', x3'⟩ := e3.frame A _ x4 (ntb M n) x3
    have hdrop : ds.drop i = d :: ds.drop (i + 1) := by
      obtain ⟨h1, h2⟩ := List.getElem?_eq_some_iff.mp hd
      rw [List.drop_eq_getElem_cons h1, h2]
    rw [hdrop] at q2
    unfold scL at q2
    cases hput : p.put d (wipeS s vs) with
    | none => rw [hput] at q2; exact q2.elim
    | some s2 =>
      simp only [hput] at q2
      have x13 := x1.trans e3
      refine ⟨wipeS s vs, S2, ω3, d, s2, rl3, (rs1.ext x1).ext e3, r3, hput, fun σ3 rs3 hw => ⟨by rw [hw vs hin, wipe_twice], ?_⟩⟩
      refine ⟨s2, S2, ω3, rl3, rs3, ?_⟩
      cases e4 : t s2 S2 with
      | err => rw [e4] at q2; exact q2
      | ex x S3 => rw [e4] at q2; exact q2.elim
      | ok b S3 =>
        rw [e4] at q2
        cases b <;> try exact q2.elim
        rename_i k
        intro ω4 H4 c ex4 rl4 rb
        cases rb
        obtain ⟨y4, y3⟩ := ex4.frame A _ x4' (ntb M n) x3'
        cases k with
        | false => exact iteF ⟨S3, ω4, acc, M, n, x13.trans ex4, rl4, y3, y4, x5, x6, x7, q2⟩
        | true =>
          refine iteT ⟨s2, S3, ω4, rl4, rs3.ext ex4, ?_⟩
          cases e5 : e s2 S3 with
          | err => simp only [e5] at q2; exact q2.elim
          | ex x S4 => simp only [e5] at q2; exact q2.elim
          | ok r S4 =>
            simp only [e5] at q2
            intro ω5 H5 v ex5 rl5 rv
            obtain ⟨z4, z3⟩ := ex5.frame A _ y4 (ntb M n) y3
            cases r <;> try exact q2.elim
            rename_i k
            simp only at q2
            split at q2
            · rename_i room
              refine ⟨k, M, n, rv.int, z4, by omega, fun hx => ⟨S4, ω5, k :: acc, _, _, ((x13.trans ex4).trans ex5).upd_out hA, Own.not_updX rl5 z3 (.set z4 hx), z3, upd_same, fun j => ?_, ?_, ?_, q2⟩⟩
              · rw [Bool.or_eq_true, decide_eq_true_eq, x5 j, List.mem_cons]
                exact Or.comm
              · rw [List.length_cons]
                split <;> omega
              · split <;> omega
            · exact q2.elim
  · rintro H2 ⟨S2, ω2, acc, M, n, x1, x2, x3, x4, x5, x6, x7, q2⟩
    rw [List.drop_length] at q2
    unfold scL at q2
    simp only [Res.bind] at q2
    refine ⟨A, M, n, rfl, x4, x7, fun ns B asc mem hB => ?_⟩
    have en : ns = srtU acc := asc_uniq asc asc_srtU fun j => by rw [mem, x5, mem_srtU]
    subst en
    obtain ⟨ω3, e3, rl3, hF⟩ := Rl.laid (T := T) x2 hB (.lst ((srtU acc).map V.int))
    exact q2 ω3 _ _ (x1.trans e3) rl3 (Rp.mlst hF (Rps.of_ints _))
theorem ge_srtS {elt iter : Expr} {ifs : List Expr} {scope : Scope} {own : List (Str × Nat)} {p : Pat} {src : Src} {t e : Q.TE} {np spos : Pos} (hc : X.calm = true) (hN : X.N.Nodup) (hg0 : Gl X "sorted") (hm : X.mg "sorted" = none) (hi : GI X T W tg iter src) (ok : BlkOk X.N X.env.scope scope own) (hin : ∀ i ∈ p.slots, i ∈ own.map (·.2))
    (hg : ∀ (s : Shared) (H : Hp) (C : Addr) (cl : List (Str × Addr)) (fp : List Addr), GP (X.blk s H scope (compEnvC scope cl C X.env) fp) T tg p)
    (ht : ∀ (s : Shared) (H : Hp) (C : Addr) (cl : List (Str × Addr)) (fp : List Addr), PTs (X.blk s H scope (compEnvC scope cl C X.env) fp) ifs (tTr X.K T Wn t))
    (he : ∀ (s : Shared) (H : Hp) (C : Addr) (cl : List (Str × Addr)) (fp : List Addr), GE (X.blk s H scope (compEnvC scope cl C X.env) fp) T Wn elt e) (hs : ∀ x, foldedSetIterable iter X.env x = pure x := by intro _; rfl)
    (hsa : starEach [.SetComp elt [⟨tg, iter, ifs, 0⟩] scope spos] X.env = [(false, eval (.SetComp elt [⟨tg, iter, ifs, 0⟩] scope spos) X.env)] := by rfl) :
    GE X T W (.Call (.Name "sorted" np) [.SetComp elt [⟨tg, iter, ifs, 0⟩] scope spos] [] pos) (eSrtS (own.map (·.2)) p src t e) :=
  PE.imp (pe_callB (cr_srtSet hc) hg0 hm (by decide +kernel) (pa_cons (pe_scI (g := tGr X.K T p) (tt := tTr X.K T Wn t) (te := tEr X.K T Wn e) hc hN hi ok hg ht he hs) pa_nil hsa) (by decide) (by decide) hsa (by rfl)) fun σ H Qv h => scI_ok hc hin σ H Qv h
end
end Q
set_option maxHeartbeats 1000000
namespace Q
open PySem PySem.Spec PyProof.Rows L2
section
variable {K : PySem.W.Frag} {T : Tb} {ω : Wd} {S : Store} {H : Hp}
theorem Lvr.plain : ∀ {v : Lv} {o : HO}, Lvr K T ω v o → Plain o
  | .ins _ _, _, ⟨_, _, e, _⟩ => by rw [e]; trivial
  | .dct _, _, ⟨_, e, _⟩ => by rw [e]; trivial
  | .dctT _, _, ⟨_, e, _⟩ => by rw [e]; trivial
theorem get_newO {v : Lv} {k : Nat} {es : List D} : (S.newO v).get k = some es ↔ S.get k = some es := Iff.rfl
theorem Rl0.live {ω0 : Wd} {S0 : Store} {H0 : Hp} {p : Addr} {v : Lv} {o : HO} (rl : Rl0 K T ω S H) (ex : Ext ω0 S0 H0 ω S H) (h0 : H0 p = none) (was : H p = none ∨ ∃ u, H p = some u ∧ Plain u) (nA : ¬ Own ω S p) (hf : v.flat = true) (r : Lvr K T ω v o) :
    ∃ ω', Ext ω0 S0 H0 ω' (S.newO v) (upd H p o) ∧ Rl0 K T ω' (S.newO v) (upd H p o) ∧ Rp K T ω' (.obj S.O.length) (.ref p) := by
  have hF : ω.F p = none := by
    cases q : ω.F p with
    | none => rfl
    | some u => exact absurd (.inl ⟨u, q⟩) nA
  have ao : ∀ k, k < ω.m → (if k = ω.m then p else ω.ao k) = ω.ao k := fun k hk => if_neg (Nat.ne_of_lt hk)
  have at_ : ∀ k, k < ω.m → ω.ao k ≠ p := fun k hk z => nA (.inr (.inr ⟨k, hk, z⟩))
  have mn : ∀ {u : Lv} {q : HO}, Lvr K T ω u q → Lvr K T ⟨ω.F, ω.al, ω.n, fun k => if k = ω.m then p else ω.ao k, ω.m + 1⟩ u q := fun {u q} h =>
    Lvr.mono (ω := ω) (ω' := ⟨ω.F, ω.al, ω.n, fun k => if k = ω.m then p else ω.ao k, ω.m + 1⟩) (fun _ _ h => h) (fun _ _ => rfl) (Nat.le_refl _) ao (Nat.le_succ _) h
  have mns : ∀ {es us}, Rps K T ω es us → Rps K T ⟨ω.F, ω.al, ω.n, fun k => if k = ω.m then p else ω.ao k, ω.m + 1⟩ es us := fun {es us} h =>
    Rps.mono (ω := ω) (ω' := ⟨ω.F, ω.al, ω.n, fun k => if k = ω.m then p else ω.ao k, ω.m + 1⟩) (fun _ _ h => h) (fun _ _ => rfl) (Nat.le_refl _) ao (Nat.le_succ _) _ _ h
  refine ⟨⟨ω.F, ω.al, ω.n, fun k => if k = ω.m then p else ω.ao k, ω.m + 1⟩, ⟨ex.fix, ex.al, ex.len, fun k hk => (ao k (Nat.lt_of_lt_of_le hk ex.lenO)).trans (ex.ao k hk), Nat.le_trans ex.lenO (Nat.le_succ _), ex.live, fun b q h t n0 => ?_⟩, ⟨fun b q h => ?_, rl.len, fun k es h => ?_, rl.inj, ?_, fun k u h => ?_, fun j k hj hk e => ?_, rl.nt, ⟨tabs_putP rl.tab.1 was, lamcs_put rl.tab.2 was⟩⟩, ?_⟩
  · have hb := ne_of_none h h0
    obtain ⟨h, n⟩ := ex.frame b q h t n0
    refine ⟨by rw [upd_ne hb]; exact h, ?_⟩
    rintro (z | z | ⟨k, hk, z⟩)
    · exact n (.inl z)
    · exact n (.inr (.inl z))
    · have z' : (if k = ω.m then p else ω.ao k) = b := z
      by_cases e : k = ω.m
      · rw [if_pos e] at z'; exact hb z'.symm
      · rw [if_neg e] at z'
        have hk' : k < ω.m + 1 := hk
        exact n (.inr (.inr ⟨k, by omega, z'⟩))
  · rw [upd_ne (ne_of_none h hF)]; exact rl.sub _ _ h
  · obtain ⟨h1, h2, us, h3, h4⟩ := rl.obj k es h
    exact ⟨h1, h2, us, by show upd H p o (ω.al k) = _; rw [upd_ne fun z => nA (.inr (.inl ⟨k, es, h, z⟩))]; exact h3, mns h4⟩
  · show (S.O ++ [v]).length = ω.m + 1
    rw [List.length_append, rl.lenO]; rfl
  · have h' : (S.O ++ [v])[k]? = some u := h
    by_cases hk : k < S.O.length
    · rw [List.getElem?_append_left hk] at h'
      obtain ⟨a1, a2, o2, a3, a4⟩ := rl.objO k u h'
      have hk2 : k < ω.m := rl.lenO ▸ hk
      refine ⟨?_, a2, o2, ?_, mn a4⟩
      · show ω.F (if k = ω.m then p else ω.ao k) = none
        rw [ao k hk2]; exact a1
      · show upd H p o (if k = ω.m then p else ω.ao k) = _
        rw [ao k hk2, upd_ne (at_ k hk2)]; exact a3
    · have hk1 : k = S.O.length := by
        have := (List.getElem?_eq_some_iff.mp h').1
        rw [List.length_append] at this
        simp at this
        omega
      subst hk1
      simp at h'
      subst h'
      refine ⟨?_, hf, o, ?_, mn r⟩
      · show ω.F (if S.O.length = ω.m then p else ω.ao _) = none
        rw [if_pos rl.lenO]; exact hF
      · show upd H p o (if S.O.length = ω.m then p else ω.ao _) = _
        rw [if_pos rl.lenO, upd_same]
  · have hj' : j < ω.m + 1 := hj
    have hk' : k < ω.m + 1 := hk
    have e' : (if j = ω.m then p else ω.ao j) = (if k = ω.m then p else ω.ao k) := e
    by_cases h1 : j = ω.m <;> by_cases h2 : k = ω.m
    · omega
    · rw [if_pos h1, if_neg h2] at e'
      exact absurd e'.symm (at_ k (by omega))
    · rw [if_neg h1, if_pos h2] at e'
      exact absurd e' (at_ j (by omega))
    · rw [if_neg h1, if_neg h2] at e'
      exact rl.injO j k (by omega) (by omega) e'
  · unfold Rp
    refine ⟨by show S.O.length < ω.m + 1; rw [rl.lenO]; omega, ?_⟩
    show V.ref p = V.ref (if S.O.length = ω.m then p else ω.ao _)
    rw [if_pos rl.lenO]
theorem Rl.live {ω0 : Wd} {S0 : Store} {H0 : Hp} {p : Addr} {v : Lv} {o : HO} (rl0 : Rl K T ω0 S0 H0) (rl : Rl K T ω S H) (ex : Ext ω0 S0 H0 ω S H) (h0 : H0 p = none) (was : H p = none ∨ ∃ u, H p = some u ∧ Plain u) (nA : ¬ Own ω S p) (hf : v.flat = true) (r : Lvr K T ω v o) :
    ∃ ω', Ext ω0 S0 H0 ω' (S.newO v) (upd H p o) ∧ Rl K T ω' (S.newO v) (upd H p o) ∧ Rp K T ω' (.obj S.O.length) (.ref p) :=
  let ⟨ω', e, x, h⟩ := rl.toRl0.live ex h0 was nA hf r
  ⟨ω', e, ⟨x, pin_ext rl0 e x.sub⟩, h⟩
theorem Rl0.free {p : Addr} (rl : Rl0 K T ω S H) (h : H p = none) : ¬ Own ω S p := by
  rintro (⟨q, z⟩ | ⟨k, ds, z, e⟩ | ⟨k, hk, e⟩)
  · have := rl.sub _ _ z
    rw [h] at this; cases this
  · obtain ⟨_, _, vs, a3, _⟩ := rl.obj k ds z
    rw [e, h] at a3; cases a3
  · have hk' : k < S.O.length := by rw [rl.lenO]; exact hk
    obtain ⟨_, _, o2, a3, a4⟩ := rl.objO k _ (show S.O[k]? = some S.O[k] by simp [hk'])
    rw [e, h] at a3; cases a3
theorem Rl.newO {p : Addr} {v : Lv} {o : HO} (rl : Rl K T ω S H) (hp : H p = none) (hf : v.flat = true) (r : Lvr K T ω v o) :
    ∃ ω', Ext ω S H ω' (S.newO v) (upd H p o) ∧ Rl K T ω' (S.newO v) (upd H p o) ∧ Rp K T ω' (.obj S.O.length) (.ref p) := Rl.live rl rl Ext.refl hp (.inl hp) (rl.toRl0.free hp) hf r
theorem Rl0.putO {k : Nat} {u v : Lv} {o : HO} (rl : Rl0 K T ω S H) (g : S.O[k]? = some u) (hf : v.flat = true) (r : Lvr K T ω v o) : Ext ω S H ω (S.putO k v) (upd H (ω.ao k) o) ∧ Rl0 K T ω (S.putO k v) (upd H (ω.ao k) o) := by
  obtain ⟨hF, _, o1, hH, r1⟩ := rl.objO k u g
  have hk : k < ω.m := by rw [← rl.lenO]; exact (List.getElem?_eq_some_iff.mp g).1
  have was : H (ω.ao k) = none ∨ ∃ w, H (ω.ao k) = some w ∧ Plain w := .inr ⟨_, hH, r1.plain⟩
  refine ⟨⟨fun _ _ h => h, fun _ _ => rfl, Nat.le_refl _, fun _ _ => rfl, Nat.le_refl _, fun j es _ h => ⟨es, h⟩, fun b q h _ n => ⟨?_, n⟩⟩, ⟨fun b q h => ?_, rl.len, fun j es h => ?_, rl.inj, ?_, fun j w h => ?_, rl.injO, rl.nt, ⟨tabs_putP rl.tab.1 was, lamcs_put rl.tab.2 was⟩⟩⟩
  · rw [upd_ne fun z => n (.inr (.inr ⟨k, hk, z.symm⟩))]; exact h
  · rw [upd_ne fun z => by rw [z, hF] at h; cases h]; exact rl.sub _ _ h
  · obtain ⟨a1, a2, us, a3, a4⟩ := rl.obj j es h
    exact ⟨a1, a2, us, by rw [upd_ne fun z => by rw [z, hH] at a3; exact r1.lst _ (Option.some.inj a3)]; exact a3, a4⟩
  · show (S.O.set k v).length = ω.m
    rw [List.length_set]; exact rl.lenO
  · have h' : (S.O.set k v)[j]? = some w := h
    by_cases hj : k = j
    · subst hj
      rw [List.getElem?_set_self (by rw [rl.lenO]; exact hk)] at h'
      cases h'
      exact ⟨hF, hf, o, upd_same, r⟩
    · rw [List.getElem?_set_ne hj] at h'
      obtain ⟨a1, a2, o2, a3, a4⟩ := rl.objO j w h'
      have hj2 : j < ω.m := by rw [← rl.lenO]; exact (List.getElem?_eq_some_iff.mp h').1
      exact ⟨a1, a2, o2, by rw [upd_ne fun z => hj (rl.injO k j hk hj2 z.symm)]; exact a3, a4⟩
theorem Rl.putO {k : Nat} {u v : Lv} {o : HO} (rl : Rl K T ω S H) (g : S.O[k]? = some u) (hf : v.flat = true) (r : Lvr K T ω v o) : Ext ω S H ω (S.putO k v) (upd H (ω.ao k) o) ∧ Rl K T ω (S.putO k v) (upd H (ω.ao k) o) :=
  let ⟨e, x⟩ := rl.toRl0.putO g hf r
  ⟨e, ⟨x, pin_ext rl e x.sub⟩⟩
theorem still_ok {u : Lv} (h : u.still = true) (hf : u.flat = true) : u.flat1 = true := by
  cases u with
  | ins C fs => exact h
  | dct kvs => exact hf
  | dctT kvs => exact hf
theorem Rl0.cutO {ω0 : Wd} {S0 : Store} {H0 : Hp} (rl0 : Rl0 K T ω0 S0 H0) (rl : Rl0 K T ω S H) (e : Ext ω0 S0 H0 ω S H) (st : (S.O.take S0.O.length).all Lv.still = true) : ∃ ω', Ext ω0 S0 H0 ω' (S.cutO S0.O.length) H ∧ Rl0 K T ω' (S.cutO S0.O.length) H ∧ (∀ d v, d.flat = true → Rp K T ω d v → Rp K T ω' d v) ∧ ω'.F = ω.F ∧
    (∀ ds vs, flats ds = true → Rps K T ω ds vs → Rps K T ω' ds vs) := by
  have fl : ∀ d v, d.flat = true → Rp K T ω d v → Rp K T ⟨ω.F, ω.al, ω.n, ω.ao, ω0.m⟩ d v := fun d v f r => Rp.flat (ω := ω) (ω' := ⟨ω.F, ω.al, ω.n, ω.ao, ω0.m⟩) (fun _ _ h => h) d v f r
  have fls : ∀ d v, flats d = true → Rps K T ω d v → Rps K T ⟨ω.F, ω.al, ω.n, ω.ao, ω0.m⟩ d v := fun d v f r => Rps.flat (ω := ω) (ω' := ⟨ω.F, ω.al, ω.n, ω.ao, ω0.m⟩) (fun _ _ h => h) d v f r
  refine ⟨⟨ω.F, ω.al, ω.n, ω.ao, ω0.m⟩, ⟨e.fix, e.al, e.len, e.ao, Nat.le_refl _, e.live, fun b q h t n => ?_⟩, ⟨rl.sub, rl.len, fun j fs h => ?_, rl.inj, ?_, fun j v h => ?_, fun j k hj hk => rl.injO j k (Nat.lt_of_lt_of_le hj e.lenO) (Nat.lt_of_lt_of_le hk e.lenO), rl.nt, rl.tab⟩, fl, rfl, fls⟩
  · obtain ⟨h1, n1⟩ := e.frame b q h t n
    refine ⟨h1, fun z => n1 ?_⟩
    rcases z with z | z | ⟨k, hk, z⟩
    · exact .inl z
    · exact .inr (.inl z)
    · exact .inr (.inr ⟨k, Nat.lt_of_lt_of_le hk e.lenO, z⟩)
  · obtain ⟨a1, a2, us, a3, a4⟩ := rl.obj j fs h
    exact ⟨a1, a2, us, a3, fls _ _ a2 a4⟩
  · show (S.O.take S0.O.length).length = ω0.m
    rw [List.length_take, rl.lenO, rl0.lenO]
    have := e.lenO
    omega
  · have h' : (S.O.take S0.O.length)[j]? = some v := h
    have hj : j < S0.O.length := by
      have := (List.getElem?_eq_some_iff.mp h').1
      rw [List.length_take] at this
      omega
    have hs : v.still = true := List.all_eq_true.mp st v (List.mem_of_getElem? h')
    rw [List.getElem?_take_of_lt hj] at h'
    obtain ⟨a1, a2, o2, a3, a4⟩ := rl.objO j v h'
    exact ⟨a1, a2, o2, a3, Lvr.flat1 (ω := ω) (ω' := ⟨ω.F, ω.al, ω.n, ω.ao, ω0.m⟩) (fun _ _ h => h) (still_ok hs a2) a4⟩
theorem Rl.cutO {ω0 : Wd} {S0 : Store} {H0 : Hp} (rl0 : Rl K T ω0 S0 H0) (rl : Rl K T ω S H) (e : Ext ω0 S0 H0 ω S H) (st : (S.O.take S0.O.length).all Lv.still = true) : ∃ ω', Ext ω0 S0 H0 ω' (S.cutO S0.O.length) H ∧ Rl K T ω' (S.cutO S0.O.length) H ∧ (∀ d v, d.flat = true → Rp K T ω d v → Rp K T ω' d v) ∧ ω'.F = ω.F ∧
    (∀ ds vs, flats ds = true → Rps K T ω ds vs → Rps K T ω' ds vs) :=
  let ⟨ω', e', x, h⟩ := rl0.toRl0.cutO rl.toRl0 e st
  ⟨ω', e', ⟨x, pin_ext rl0 e' x.sub⟩, h⟩
end
section
variable {X : Cx} {T : Tx} {W : WX} {a b c e : Expr} {ta tb tc : Q.TE} {ts : List Q.TE} {pos : Pos} {body : List Stmt} {t : TSt}
theorem gss_loc (h : GSs X T W body t) : GSs X T W body (tLoc t) := PSs.imp h fun D σ H ⟨s, S, ω, rl, rs, q⟩ => by
  refine ⟨s, S, ω, rl, rs, ?_⟩
  unfold tLoc at q
  cases e0 : t s S with
  | none => rw [e0] at q; exact q
  | some p =>
    obtain ⟨f, S1⟩ := p
    rw [e0] at q
    cases f with
    | ret d =>
      simp only at q
      split at q
      · rename_i hc
        rw [Bool.and_eq_true] at hc
        intro ω' H' v ex rl' rp
        obtain ⟨ω2, e2, rl2, fl, _, _⟩ := Rl.cutO rl rl' ex hc.2
        exact q ω2 H' v e2 rl2 (fl _ _ hc.1 rp)
      · exact q.elim
    | ex x s1 =>
      simp only at q
      split at q
      · rename_i hc
        rw [Bool.and_eq_true] at hc
        intro ω' σ' H' cls dd ex rl' rs' er
        obtain ⟨ω2, e2, rl2, fl, hF, fls⟩ := Rl.cutO rl rl' ex hc.2
        refine q ω2 σ' H' cls dd e2 rl2 ?_ ?_
        · refine ⟨by rw [List.length_replicate]; exact rs'.1, fun i d z => ?_⟩
          rw [List.getElem?_replicate] at z
          split at z <;> cases z
        · obtain ⟨e1, e2⟩ := er
          refine ⟨e1, ?_⟩
          have hc1 := hc.1
          match hx : x.args with
          | [] => rw [hx] at e2; exact e2
          | [y] =>
            rw [hx] at e2 hc1
            obtain ⟨d, v, q1, q2, q3⟩ := e2
            refine ⟨d, v, q1, by rw [hF]; exact q2, fl _ _ ?_ q3⟩
            simpa [flats] using hc1
          | _ :: _ :: _ => rw [hx] at e2; exact e2.elim
      · exact q.elim
    | nx s1 => exact q.elim
    | bk s1 => exact q.elim
    | ct s1 => exact q.elim
theorem ge_dctM0 : GE X T W (.Dict [] [] pos) (eDctM []) := PE.imp pe_dnewK fun σ H Qv ⟨s, S, ω, rl, rs, q⟩ => by
  intro p hp
  have q' : EPg X.K T (Rp X.K T.toTb) W σ ω S H (.ok (.obj S.O.length) (S.newO (.dct []))) Qv := q
  obtain ⟨ω2, e2, rl2, r2⟩ := Rl.newO rl hp (v := .dct []) (o := .dK []) rfl ⟨[], rfl, by unfold Rpk; rfl⟩
  exact q' ω2 _ _ e2 rl2 r2
theorem Rpk.put {K : PySem.W.Frag} {T : Tb} {ω : Wd} {k : Key} {d : D} {v : V} (h : Rp K T ω d v) : ∀ {kvs : List (Key × D)} {ws : List (Key × V)}, Rpk K T ω kvs ws → Rpk K T ω (putG kvs k d) (putK ws k v) := by
  have any_ : ∀ {kvs : List (Key × D)} {ws : List (Key × V)}, Rpk K T ω kvs ws → (kvs.any fun kv => decide (kv.1 = k)) = (ws.any fun kv => decide (kv.1 = k)) := by
    intro kvs
    induction kvs with
    | nil => intro ws r; unfold Rpk at r; subst r; rfl
    | cons p kvs ih =>
      intro ws r
      obtain ⟨f, x⟩ := p
      unfold Rpk at r
      obtain ⟨u, hs, rfl, _, r⟩ := r
      simp only [List.any_cons]
      rw [ih r]
  have map_ : ∀ {kvs : List (Key × D)} {ws : List (Key × V)}, Rpk K T ω kvs ws → Rpk K T ω (kvs.map fun kv => if kv.1 = k then (kv.1, d) else kv) (ws.map fun kv => if kv.1 = k then (kv.1, v) else kv) := by
    intro kvs
    induction kvs with
    | nil => intro ws r; unfold Rpk at r; subst r; unfold Rpk; rfl
    | cons p kvs ih =>
      intro ws r
      obtain ⟨f, x⟩ := p
      unfold Rpk at r
      obtain ⟨u, hs, rfl, r0, r⟩ := r
      simp only [List.map_cons]
      by_cases z : f = k
      · rw [if_pos z, if_pos z]; unfold Rpk; exact ⟨v, _, rfl, h, ih r⟩
      · rw [if_neg z, if_neg z]; unfold Rpk; exact ⟨u, _, rfl, r0, ih r⟩
  have app_ : ∀ {kvs : List (Key × D)} {ws : List (Key × V)}, Rpk K T ω kvs ws → Rpk K T ω (kvs ++ [(k, d)]) (ws ++ [(k, v)]) := by
    intro kvs
    induction kvs with
    | nil => intro ws r; unfold Rpk at r; subst r; unfold Rpk; exact ⟨v, [], rfl, h, by unfold Rpk; rfl⟩
    | cons p kvs ih =>
      intro ws r
      obtain ⟨f, x⟩ := p
      unfold Rpk at r
      obtain ⟨u, hs, rfl, r0, r⟩ := r
      simp only [List.cons_append]
      unfold Rpk
      exact ⟨u, _, rfl, r0, ih r⟩
  intro kvs ws r
  unfold putG putK
  rw [any_ r]
  split
  · exact map_ r
  · exact app_ r
theorem Rpk.len {K : PySem.W.Frag} {T : Tb} {ω : Wd} : ∀ {kvs : List (Key × D)} {ws : List (Key × V)}, Rpk K T ω kvs ws → kvs.length = ws.length ∧ kvs.map (·.1) = ws.map (·.1)
  | [], ws, r => by unfold Rpk at r; subst r; exact ⟨rfl, rfl⟩
  | (f, x) :: kvs, ws, r => by
    unfold Rpk at r
    obtain ⟨u, hs, rfl, _, r⟩ := r
    obtain ⟨h1, h2⟩ := Rpk.len r
    simp [h1, h2]
theorem flatk_all {kvs : List (Key × D)} : flatk kvs = true ↔ ∀ p ∈ kvs, p.2.flat = true := by
  induction kvs with
  | nil => simp [flatk]
  | cons p kvs ih => obtain ⟨f, x⟩ := p; simp [flatk, ih]
theorem flatk_put {kvs : List (Key × D)} {k : Key} {d : D} (h : flatk kvs = true) (hd : d.flat = true) : flatk (putG kvs k d) = true := by
  rw [flatk_all] at h ⊢
  unfold putG
  split
  · intro p hp
    obtain ⟨q, hq, rfl⟩ := List.mem_map.mp hp
    split
    · exact hd
    · exact h q hq
  · intro p hp
    rcases List.mem_append.mp hp with z | z
    · exact h p z
    · rw [List.mem_singleton.mp z]; exact hd
theorem Rp.dkv {K : PySem.W.Frag} {T : Tb} {ω : Wd} {S : Store} {H : Hp} (rl : Rl K T ω S H) {d : D} {v : V} {kvs : List (Key × D)} (r : Rp K T ω d v) (g : dkvs S d = some kvs) : ∃ k ws, d = .obj k ∧ S.O[k]? = some (.dct kvs) ∧ v = .ref (ω.ao k) ∧ H (ω.ao k) = some (.dK ws) ∧ Rpk K T ω kvs ws ∧ flatk kvs = true := by
  unfold dkvs at g
  split at g
  · rename_i k
    split at g
    · rename_i kv hk
      cases g
      unfold Rp at r
      obtain ⟨_, hf, o, h1, ws, e, h2⟩ := rl.objO k _ hk
      subst e
      exact ⟨k, ws, rfl, hk, r.2, h1, h2, hf⟩
    · cases g
  · cases g
theorem key_ok {K : PySem.W.Frag} {T : Tb} {ω : Wd} {d : D} {k : Key} {v : V} (h : keyD d = some k) (r : Rp K T ω d v) : v = kV k := by
  cases d <;> try (cases h; done)
  · cases h; exact r.int
  · cases h; exact r.str
theorem kV_D {K : PySem.W.Frag} {T : Tb} {ω : Wd} (k : Key) : Rp K T ω (keyV k) (kV k) := by
  cases k with
  | inl i => exact Rp.mint i
  | inr x => exact Rp.mstr x
theorem Rps.keys {K : PySem.W.Frag} {T : Tb} {ω : Wd} : ∀ {kvs : List (Key × D)} {ws : List (Key × V)}, kvs.map (·.1) = ws.map (·.1) → Rps K T ω (kvs.map fun kv => keyV kv.1) (ws.map fun kv => kV kv.1)
  | [], [], _ => Rps.nil
  | [], _ :: _, h => by simp at h
  | _ :: _, [], h => by simp at h
  | p :: kvs, q :: ws, h => by
    simp only [List.map_cons, List.cons.injEq] at h ⊢
    refine Rps.cons ?_ (Rps.keys h.2)
    rw [h.1]
    exact kV_D _
theorem ok_lenO {K : PySem.W.Frag} : OkN K T (fun xs H Q => ∃ a kvs, xs = [V.ref a] ∧ H a = some (.dK kvs) ∧ Q (.int kvs.length) H) oLenO := by
  intro ω S H xs us Qv rl r q
  unfold oLenO at q
  split at q
  · obtain ⟨v, rfl, r1⟩ := r.one
    split at q
    · obtain ⟨k, ws, _, _, rfl, h1, h2, _⟩ := Rp.dkv rl r1 ‹_›
      exact ⟨_, ws, rfl, h1, by rw [← h2.len.1]; exact q.now rl (Rp.mint _)⟩
    · exact q.elim
  · exact q.elim
theorem ok_lstO {K : PySem.W.Frag} : OkN K T rListD oLstO := by
  intro ω S H xs us Qv rl r q
  unfold oLstO at q
  split at q
  · obtain ⟨v, rfl, r1⟩ := r.one
    split at q
    · obtain ⟨k, ws, _, _, rfl, h1, h2, _⟩ := Rp.dkv rl r1 ‹_›
      exact ⟨_, ws, rfl, h1, q.newLst rl (Rps.keys h2.len.2)⟩
    · exact q.elim
  · exact q.elim
theorem gs_putK {to ti tv : Q.TE} {o i v : Expr} {p2 : Pos} (hu : X.A.units + 64 < cLine) (ho : GE X T W o to) (hi : GE X T W i ti) (hv : GE X T W v tv) (hs : swapsWith v (some (.Subscript o i p2)) pos.line X.env = pure false := by rfl) :
    GS X T W (.Assign [.Subscript o i p2] v pos) (tPutK to ti tv) := PS.imp (ps_dput (by omega) ho hi hv hs) fun D σ H ⟨s, S, ω, rl, rs, q⟩ => by
  refine ⟨s, S, ω, rl, rs, (onE_ok rs q).mono ?_⟩
  rintro v1 H1 ⟨ω1, S1, d1, e1, rl1, r1, q1⟩
  refine ⟨s, S1, ω1, rl1, rs.ext e1, (onE_ok (rs.ext e1) q1).mono ?_⟩
  rintro v2 H2 ⟨ω2, S2, d2, e2, rl2, r2, q2⟩
  have rs2 := (rs.ext e1).ext e2
  refine ⟨s, S2, ω2, rl2, rs2, (onE_ok rs2 q2).mono ?_⟩
  rintro v3 H3 ⟨ω3, S3, d3, e3, rl3, r3, q3⟩
  split at q3
  · rename_i S4 hS
    unfold putO at hS
    split at hS
    · rename_i k
      split at hS
      · rename_i kvs hk
        split at hS
        · rename_i j hj
          split at hS
          · rename_i hc
            rw [Bool.and_eq_true] at hc
            cases hS
            obtain ⟨hF, hf, o2, h1, ws, eo, h2⟩ := rl3.objO k _ hk
            subst eo
            have rk := r2.ext e3
            unfold Rp at rk
            have ev := key_ok hj r3
            subst ev
            have hp := Rl.putO (v := .dct (putG kvs j d1)) (o := .dK (putK ws j v1)) rl3 hk (flatk_put hf hc.2) ⟨_, rfl, Rpk.put ((r1.ext e2).ext e3) h2⟩
            refine ⟨ω3.ao k, _, rk.2, DPut.k h1 (by rw [← h2.len.1]; exact of_decide_eq_true hc.1), ?_⟩
            exact q3 ω3 σ _ hp.1 hp.2 ((rs2.ext e3).ext hp.1)
          · cases hS
        · cases hS
      · cases hS
    · cases hS
  · exact q3.elim
theorem ge_dctM {ks : List (Option Expr)} {vs : List Expr} (h : GDs X T W pos ks vs ts) (h0 : ks ≠ [] := by intro z; cases z) (h15 : ks.length ≤ 15 := by decide) : GE X T W (.Dict ks vs pos) (eDctM ts) := by
  obtain ⟨trs, h1, h2, h3, h4⟩ := h
  refine PE.imp (pe_disp h1 h2 h3 h0 h15) fun σ H Qv ⟨s, S, ω, rl, rs, q⟩ => ?_
  intro p hp
  have nA := own_of rl hp
  have rl0 := Own.not_upd (T := T) (o := .dK []) rl nA (.inl hp)
  refine h4 σ _ _ ⟨s, S, ω, rl0, rs, ?_⟩
  unfold eDctM at q
  cases e0 : eArgs ts s S with
  | err => rw [e0] at q; exact q
  | ex x S1 =>
    rw [e0] at q
    exact fun ω' H' cls dd ex rl' er => q ω' H' cls dd (by
      refine ⟨ex.fix, ex.al, ex.len, ex.ao, ex.lenO, ex.live, fun b o hb t n => ex.frame b o (by rw [upd_ne (ne_of_none hb hp)]; exact hb) t n⟩) rl' er
  | ok ds S1 =>
    rw [e0] at q
    simp only [Res.bind] at q
    intro ω1 H1 ps ex rl1 ⟨r1, r2⟩
    have ex0 : Ext ω S H ω1 S1 H1 := ⟨ex.fix, ex.al, ex.len, ex.ao, ex.lenO, ex.live, fun b o hb t n => ex.frame b o (by rw [upd_ne (ne_of_none hb hp)]; exact hb) t n⟩
    obtain ⟨x1, x2⟩ := ex.frame p (.dK []) upd_same (fun ps z => by cases z) nA
    split at q
    · rename_i kvs hk
      split at q
      · rename_i hn
        rw [Bool.and_eq_true] at hn
        obtain ⟨ws, e1, e2, e3⟩ := pairsD_ok hk r1
        refine ⟨x1, ws, e1, ?_, ?_⟩
        · have : ps.length = ws.length := by rw [e1, List.length_map]
          omega
        · have em : mergeK [] ws = ws := by
            rw [merge_nodup ws [] (by rw [← e3]; exact hn.1) (by simp)]
            rfl
          rw [em]
          obtain ⟨ω3, e4, rl3, r3⟩ := Rl.live (v := .dct kvs) (o := .dK ws) rl rl1 ex0 hp (.inr ⟨_, x1, trivial⟩) x2 hn.2 ⟨ws, rfl, e2⟩
          exact q ω3 _ _ e4 rl3 r3
      · exact q.elim
    · exact q.elim
theorem Rpk.merge {K : PySem.W.Frag} {T : Tb} {ω : Wd} : ∀ {more : List (Key × D)} {ms : List (Key × V)} {kvs : List (Key × D)} {ws : List (Key × V)}, Rpk K T ω more ms → Rpk K T ω kvs ws → Rpk K T ω (mergeG kvs more) (mergeK ws ms)
  | [], ms, kvs, ws, r, r0 => by unfold Rpk at r; subst r; exact r0
  | (k, d) :: more, ms, kvs, ws, r, r0 => by
    unfold Rpk at r
    obtain ⟨v, hs, rfl, h, r⟩ := r
    show Rpk K T ω (mergeG (putG kvs k d) more) (mergeK (putK ws k v) hs)
    exact Rpk.merge r (Rpk.put h r0)
theorem prs_ok {K : PySem.W.Frag} {T : Tb} {ω : Wd} {S : Store} {H : Hp} (rl : Rl K T ω S H) : ∀ {ds : List D} {kvs : List (Key × D)} {vs : List V}, prsD ds = some kvs → Rps K T ω ds vs →
    ∃ ps ws, vs = ps.map V.ref ∧ Paired (fun (p : Addr) (kv : Key × V) => SqT K H p [kV kv.1, kv.2]) ps ws ∧ Rpk K T ω kvs ws
  | [], kvs, vs, h, r => by
    cases h
    unfold Rps at r
    subst r
    exact ⟨[], [], rfl, .nil, by unfold Rpk; rfl⟩
  | d :: ds, kvs, vs, h, r => by
    unfold Rps at r
    obtain ⟨v, vs', rfl, r1, r2⟩ := r
    unfold prsD at h
    split at h
    · rename_i hnil; cases hnil
    · rename_i k x rest heq
      cases heq
      split at h
      · rename_i k' r' hk hr
        cases h
        obtain ⟨ps, ws, e, pr, rk⟩ := prs_ok rl hr r2
        obtain ⟨a, us, rfl, hT, ru⟩ := Rp.tup rl r1
        obtain ⟨u1, u2, rfl, q1, q2⟩ := ru.two
        have e1 := key_ok hk q1
        subst e1
        subst e
        exact ⟨a :: ps, (k', u2) :: ws, rfl, .cons hT pr, by unfold Rpk; exact ⟨u2, ws, rfl, q2, rk⟩⟩
      · cases h
    · cases h
theorem ge_lstPrs {e : Expr} {p1 p2 q1 : Pos} (hc : X.calm = true) (hgl : Gl X "list") (hml : X.mg "list" = none) (hgd : Gl X "dict") (hmd : X.mg "dict" = none) (ha : GA X T W [e] ts)
    (he : starEach [e] X.env = [(false, eval e X.env)] := by rfl) (he2 : starEach [.Call (.Name "dict" p2) [e] [] q1] X.env = [(false, eval (.Call (.Name "dict" p2) [e] [] q1) X.env)] := by rfl) :
    GE X T W (.Call (.Name "list" p1) [.Call (.Name "dict" p2) [e] [] q1] [] pos) (eN oLstPrs ts) :=
  PE.imp (pe_callTy (call_list_dK hc) hgl hml (by decide +kernel) (pa_cons (pe_callTy (call_dictP hc) hgd hmd (by decide +kernel) ha (by decide) (by decide) he (by rfl)) pa_nil he2) (by decide) (by decide) he2 (by rfl)) fun σ H Qv ⟨s, S, ω, rl, rs, q⟩ => by
    refine ⟨s, S, ω, rl, rs, (EPg.bind q).mono ?_⟩
    rintro vs H1 ⟨ω1, S1, ds, e1, rl1, r1, q1⟩
    have q2 := PQ.of q1
    unfold oLstPrs at q2
    split at q2
    · obtain ⟨v, rfl, r2⟩ := r1.one
      split at q2
      · rename_i es hes
        obtain ⟨a, us, rfl, hH, r3⟩ := Rp.itemsL rl1 r2 hes
        split at q2
        · rename_i kvs hk
          obtain ⟨ps, ws, e2, pr, rk⟩ := prs_ok rl1 hk r3
          subst e2
          refine ⟨a, ps, ws, rfl, SqL.of hH, pr, fun p hp => ⟨p, mergeK [] ws, rfl, upd_same, fun q hq => ?_⟩⟩
          obtain ⟨ω2, e3, rl2, _⟩ := Rl.laid rl1 hp (.dK (mergeK [] ws))
          obtain ⟨ω3, e4, rl3, hF⟩ := Rl.laid rl2 hq (.lst ((mergeK [] ws).map fun kv => kV kv.1))
          exact q2 ω3 _ _ (e3.trans e4) rl3 (Rp.mlst hF (Rps.keys (Rpk.merge rk (show Rpk X.K T.toTb ω1 [] [] by unfold Rpk; rfl)).len.2))
        · exact q2.elim
      · exact q2.elim
    · exact q2.elim
end
end Q
namespace Q
open PySem L2
def b_is_integer : CallT → TSt := fun c => tRet (eAnd (e1 (oIsi [.int]) (eV 0)) (eNot (e1 (oIsi [.bool]) (eV 0))))
def f_is_integer : FnD := ⟨1, 1, true, b_is_integer⟩
def b_is_within : CallT → TSt := fun c => tRet (eAnd (eCall c 1 [eV 0]) (eChain oLe oLe (eV 1) (eV 0) (eV 2)))
def f_is_within : FnD := ⟨3, 3, true, b_is_within⟩
def b_is_tuple_of : CallT → TSt := fun c => tRet (eAnd (e1 (oIsi [.tuple]) (eV 0)) (e2 oEq (eN oLen [eV 0]) (eV 1)))
def f_is_tuple_of : FnD := ⟨2, 2, true, b_is_tuple_of⟩
def w_common_0 (c : CallT) : TSt := tSet (.tp [.nm 0, .nm 1]) (eTup [eV 1, e2 oMod (eV 0) (eV 1)])
def b_common : CallT → TSt := fun c => tSeq (tSet (.tp [.nm 0, .nm 1]) (eTup [eN oAbs [eV 0], eN oAbs [eV 1]])) (tSeq (tWhile (e2 oGt (eV 1) (eC (.int 0))) (w_common_0 c)) (tRet (eV 0)))
def f_common : FnD := ⟨2, 2, true, b_common⟩
def b_is_fraction : CallT → TSt := fun c => tSeq (tIf (eOr (eNot (eCall c 3 [eV 0, eC (.int 2)])) (eOr (eNot (eCall c 1 [e2 oIx (eV 0) (eC (.int 0))])) (eNot (eCall c 1 [e2 oIx (eV 0) (eC (.int 1))])))) (tRet (eC (.bl false))) (tPass)) (tRet (eAnd (e2 oGe (e2 oIx (eV 0) (eC (.int 1))) (eC (.int 1))) (e2 oEq (eCall c 4 [e2 oIx (eV 0) (eC (.int 0)), e2 oIx (eV 0) (eC (.int 1))]) (eC (.int 1)))))
def f_is_fraction : FnD := ⟨1, 1, true, b_is_fraction⟩
def b_frac : CallT → TSt := fun c => tSeq (tSet (.nm 2) (eCall c 4 [eV 0, eV 1])) (tSeq (tIf (e2 oLt (eV 1) (eC (.int 0))) (tSet (.nm 2) (e1 oNeg (eV 2))) (tPass)) (tRet (eTup [e2 oDiv (eV 0) (eV 2), e2 oDiv (eV 1) (eV 2)])))
def f_frac : FnD := ⟨2, 3, true, b_frac⟩
def b_less : CallT → TSt := fun c => tRet (e2 oLt (e2 oMulL (e2 oIx (eV 0) (eC (.int 0))) (e2 oIx (eV 1) (eC (.int 1)))) (e2 oMulL (e2 oIx (eV 1) (eC (.int 0))) (e2 oIx (eV 0) (eC (.int 1)))))
def f_less : FnD := ⟨2, 2, true, b_less⟩
def w_places_0 (c : CallT) : TE := e2 oMod (e2 oMulL (eV 2) (e2 oIx (eV 0) (eC (.int 0)))) (e2 oIx (eV 0) (eC (.int 1)))
def b_places : CallT → TSt := fun c => tRet (eSrtS [2] (.nm 2) (sN iRng1 [eV 1]) (eC (.bl true)) (w_places_0 c))
def f_places : FnD := ⟨2, 3, true, b_places⟩
def b_is_line : CallT → TSt := fun c => tSeq (tIf (eOr (eNot (eCall c 3 [eV 0, eC (.int 2)])) (eOr (eNot (eCall c 5 [e2 oIx (eV 0) (eC (.int 0))])) (eNot (eCall c 5 [e2 oIx (eV 0) (eC (.int 1))])))) (tRet (eC (.bl false))) (tPass)) (tSeq (tIf (eOr (eCall c 10 [e2 oIx (eV 0) (eC (.int 0)), eC (.tup [(.int 0), (.int 1)])]) (eCall c 10 [eC (.tup [(.int 1), (.int 1)]), e2 oIx (eV 0) (eC (.int 0))])) (tRet (eC (.bl false))) (tPass)) (tRet (eAnd (eNot (eCall c 10 [e2 oIx (eV 0) (eC (.int 1)), eC (.tup [(.int 0), (.int 1)])])) (eCall c 10 [e2 oIx (eV 0) (eC (.int 1)), eC (.tup [(.int 1), (.int 1)])]))))
def f_is_line : FnD := ⟨1, 1, true, b_is_line⟩
def b_is_rule : CallT → TSt := fun c => tRet (eAnd (eCall c 61 [eV 0]) (eAnd (e2 oLe (e2 oIx (e2 oIx (eV 0) (eC (.int 0))) (eC (.int 1))) (eC (.int 10000))) (e2 oLe (e2 oIx (e2 oIx (eV 0) (eC (.int 1))) (eC (.int 1))) (eC (.int 10000)))))
def f_is_rule : FnD := ⟨1, 1, true, b_is_rule⟩
def b_check_rule : CallT → TSt := fun c => tIf (eNot (eCall c 62 [eV 0])) (tRaise 5) (tPass)
def f_check_rule : FnD := ⟨1, 1, true, b_check_rule⟩
def b_total_to : CallT → TSt := fun c => tSeq (tSet (.tp [.nm 2, .nm 3]) (eV 0)) (tRet (e2 oDiv (e2 oAdd (e2 oMulL (e2 oMulL (eV 1) (e2 oIx (eV 2) (eC (.int 0)))) (e2 oIx (eV 3) (eC (.int 1)))) (e2 oMulL (e2 oIx (eV 3) (eC (.int 0))) (e2 oIx (eV 2) (eC (.int 1))))) (e2 oMulL (e2 oIx (eV 2) (eC (.int 1))) (e2 oIx (eV 3) (eC (.int 1))))))
def f_total_to : FnD := ⟨2, 4, true, b_total_to⟩
def w_row_of_0 (c : CallT) : TE := eCall c 64 [eV 0, e2 oAdd (eV 1) (eV 4)]
def w_row_of_1 (c : CallT) : TE := eIf (e2 oGt (e2 oIx (eV 3) (e2 oAdd (eV 4) (eC (.int 1)))) (e2 oIx (eV 3) (eV 4))) (eC (.str "1")) (eC (.str "0"))
def b_row_of : CallT → TSt := fun c => tSeq (tSet (.nm 3) (eLc [4] (.nm 4) (sN iRng1 [e2 oAdd (eV 2) (eC (.int 1))]) (eC (.bl true)) (w_row_of_0 c))) (tRet (eM isStrD oJoin (eC (.str "")) [eLc [4] (.nm 4) (sN iRng1 [eV 2]) (eC (.bl true)) (w_row_of_1 c)]))
def f_row_of : FnD := ⟨3, 5, true, b_row_of⟩
def b_made : CallT → TSt := fun c => tSeq (tExpr (eCall c 63 [eV 0])) (tSeq (tIf (eOr (eNot (eCall c 2 [eV 1, eC (.int 0), eC (.int 1000000000000)])) (eNot (eCall c 2 [eV 2, eC (.int 1), eC (.int 500)]))) (tRaise 3) (tPass)) (tRet (eCall c 65 [eV 0, eV 1, eV 2])))
def f_made : FnD := ⟨3, 3, true, b_made⟩
def b_check_marks : CallT → TSt := fun c => tSeq (tIf (eOr (eNot (eCall c 5 [eV 0])) (eOr (eCall c 10 [eV 0, eC (.tup [(.int 0), (.int 1)])]) (eOr (eCall c 10 [eC (.tup [(.int 1), (.int 1)]), eV 0]) (e2 oGt (e2 oIx (eV 0) (eC (.int 1))) (eC (.int 10000)))))) (tRaise 7) (tPass)) (tIf (eNot (eCall c 2 [eV 1, eC (.int 1), eC (.int 500)])) (tRaise 3) (tPass))
def f_check_marks : FnD := ⟨2, 2, true, b_check_marks⟩
def w_marks_0 (c : CallT) : TE := eCall c 6 [eV 2, e2 oIx (eV 0) (eC (.int 1))]
def b_marks : CallT → TSt := fun c => tSeq (tExpr (eCall c 76 [eV 0, eV 1])) (tRet (eN oTupleOf [eLc [2] (.nm 2) (sSeq (eCall c 56 [eV 0, eV 1])) (eC (.bl true)) (w_marks_0 c)]))
def f_marks : FnD := ⟨2, 3, true, b_marks⟩
def w_arcs_0 (c : CallT) : TE := e2 oSub (eV 6) (eV 5)
def w_arcs_1 (c : CallT) : TE := eCall c 6 [eV 7, e2 oIx (eV 0) (eC (.int 1))]
def b_arcs : CallT → TSt := fun c => tSeq (tExpr (eCall c 76 [eV 0, eV 1])) (tSeq (tSet (.nm 2) (eCall c 56 [eV 0, eV 1])) (tSeq (tSet (.nm 3) (e2 oAdd (eCutL (eV 2) (eC (.int 1))) (eLst [e2 oAdd (e2 oIx (eV 2) (eC (.int 0))) (e2 oIx (eV 0) (eC (.int 1)))]))) (tSeq (tSet (.nm 4) (eSrtS [5, 6] (.tp [.nm 5, .nm 6]) (sN iZip [eV 2, eV 3]) (eC (.bl true)) (w_arcs_0 c))) (tRet (eN oTupleOf [eLc [7] (.nm 7) (sSeq (eV 4)) (eC (.bl true)) (w_arcs_1 c)])))))
def f_arcs : FnD := ⟨2, 8, true, b_arcs⟩
def w_law_hand_0 (c : CallT) : TE := eN oAbs [eN oInt [eV 2]]
def b_law_hand : CallT → TSt := fun c => tSeq (tSet (.nm 1) (eLc [2] (.nm 2) (sSeq (eCutU (eV 0) (eC (.int 63)))) (eC (.bl true)) (w_law_hand_0 c))) (tRet (eLstM [eV 1, eC (.int 0), eC (.int 0), e2 oAdd (eC (.int 61)) (e2 oMulL (eC (.int 7)) (eN oLen [eV 1])), eC (.int 0)]))
def f_law_hand : FnD := ⟨1, 3, true, b_law_hand⟩
def b_law_draw : CallT → TSt := fun c => tSeq (tIf (eAnd (e2 oEq (e2 oIx (eV 0) (eC (.int 2))) (eC (.int 0))) (e2 oLt (e2 oIx (eV 0) (eC (.int 1))) (eN oLen [e2 oIx (eV 0) (eC (.int 0))]))) (tSeq (tSet (.nm 2) (e2 oIx (e2 oIx (eV 0) (eC (.int 0))) (e2 oIx (eV 0) (eC (.int 1))))) (tSeq (tSetIx (eV 0) (eC (.int 1)) (e2 oAdd (e2 oIx (eV 0) (eC (.int 1))) (eC (.int 1)))) (tSeq (tSetIx (eV 0) (eC (.int 3)) (e2 oMod (eN oInt [e2 oAdd (e2 oAdd (e2 oMulL (e2 oIx (eV 0) (eC (.int 3))) (eC (.int 69621))) (e2 oMulL (eV 2) (eC (.int 40692)))) (eC (.int 23))]) (eC (.int 2147483629)))) (tIf (e2 oGe (eV 2) (e2 oPow (eC (.int 10)) (eC (.int 18)))) (tSetIx (eV 0) (eC (.int 2)) (eV 2)) (tPass))))) (tPass)) (tSeq (tIf (e2 oGt (e2 oIx (eV 0) (eC (.int 2))) (eC (.int 0))) (tSeq (tSet (.nm 3) (e2 oMod (eN oInt [e2 oIx (eV 0) (eC (.int 2))]) (eV 1))) (tSeq (tSetIx (eV 0) (eC (.int 2)) (e2 oDiv (e2 oIx (eV 0) (eC (.int 2))) (eV 1))) (tRet (eV 3)))) (tPass)) (tSeq (tSetIx (eV 0) (eC (.int 4)) (e2 oAdd (e2 oIx (eV 0) (eC (.int 4))) (eC (.int 1)))) (tSeq (tSet (.nm 4) (e2 oMod (eN oInt [e2 oMulL (eN oInt [e2 oAdd (e2 oIx (eV 0) (eC (.int 3))) (e2 oMulL (eC (.int 7919)) (e2 oIx (eV 0) (eC (.int 4))))]) (eC (.int 48271))]) (eC (.int 2147483647)))) (tSeq (tSet (.nm 4) (e2 oMod (eN oInt [e2 oMulL (eV 4) (e2 oAdd (e2 oDiv (eV 4) (eC (.int 1009))) (eC (.int 69621)))]) (eC (.int 2147483647)))) (tSeq (tSet (.nm 4) (e2 oMod (eN oInt [e2 oMulL (eV 4) (e2 oAdd (e2 oDiv (eV 4) (eC (.int 2003))) (eC (.int 40014)))]) (eC (.int 2147483563)))) (tRet (e2 oMod (eN oInt [e2 oDiv (eV 4) (eC (.int 16))]) (eV 1))))))))
def f_law_draw : FnD := ⟨2, 5, true, b_law_draw⟩
def b_law_any : CallT → TSt := fun c => tRet (e2 oIx (eV 1) (eCall c 90 [eV 0, eN oLen [eV 1]]))
def f_law_any : FnD := ⟨2, 2, true, b_law_any⟩
def w_law_is_0 (c : CallT) : TE := eCall c 92 [eV 2, eV 3]
def b_law_is : CallT → TSt := fun c => tSeq (tIf (eOr (e1 oIsN (eV 1)) (e1 oIsN (eV 0))) (tRet (eAnd (e1 oIsN (eV 1)) (e1 oIsN (eV 0)))) (tPass)) (tSeq (tIf (e1 (oIsi [.tuple, .list]) (eV 1)) (tSeq (tIf (eOr (e2 oNe (e1 (oIsi [.tuple]) (eV 0)) (e1 (oIsi [.tuple]) (eV 1))) (e2 oNe (e1 (oIsi [.list]) (eV 0)) (e1 (oIsi [.list]) (eV 1)))) (tRet (eC (.bl false))) (tPass)) (tRet (eAnd (e2 oEq (eN oLen [eV 0]) (eN oLen [eV 1])) (eN oAll [eLc [2, 3] (.tp [.nm 2, .nm 3]) (sN iZip [eV 0, eV 1]) (eC (.bl true)) (w_law_is_0 c)])))) (tPass)) (tSeq (tIf (eOr (e2 oNe (e1 (oIsi [.bool]) (eV 0)) (e1 (oIsi [.bool]) (eV 1))) (e2 oNe (e1 (oIsi [.int]) (eV 0)) (e1 (oIsi [.int]) (eV 1)))) (tRet (eC (.bl false))) (tPass)) (tRet (eAnd (e2 oEq (e1 (oIsi [.str]) (eV 0)) (e1 (oIsi [.str]) (eV 1))) (e2 oEq (eV 0) (eV 1))))))
def f_law_is : FnD := ⟨2, 4, true, b_law_is⟩
def w_law_gcd_0 (c : CallT) : TSt := tSet (.tp [.nm 0, .nm 1]) (eTup [eV 1, e2 oMod (eN oInt [eV 0]) (eV 1)])
def b_law_gcd : CallT → TSt := fun c => tSeq (tSet (.tp [.nm 0, .nm 1]) (eTup [eN oAbs [eV 0], eN oAbs [eV 1]])) (tSeq (tWhile (e2 oGt (eV 1) (eC (.int 0))) (w_law_gcd_0 c)) (tRet (eV 0)))
def f_law_gcd : FnD := ⟨2, 2, true, b_law_gcd⟩
def b_law_frac : CallT → TSt := fun c => tSeq (tIf (e2 oLt (eV 1) (eC (.int 0))) (tSet (.tp [.nm 0, .nm 1]) (eTup [e2 oSub (eC (.int 0)) (eV 0), e2 oSub (eC (.int 0)) (eV 1)])) (tPass)) (tSeq (tSet (.nm 2) (eCall c 109 [eV 0, eV 1])) (tRet (eTup [e2 oDiv (eV 0) (eV 2), e2 oDiv (eV 1) (eV 2)])))
def f_law_frac : FnD := ⟨2, 3, true, b_law_frac⟩
def b_law_until : CallT → TSt := fun c => tSeq (tSet (.tp [.nm 2, .nm 3]) (eV 0)) (tRet (e2 oDiv (e2 oAdd (e2 oMulL (e2 oMulL (eV 1) (e2 oIx (eV 2) (eC (.int 0)))) (e2 oIx (eV 3) (eC (.int 1)))) (e2 oMulL (e2 oIx (eV 3) (eC (.int 0))) (e2 oIx (eV 2) (eC (.int 1))))) (e2 oMulL (e2 oIx (eV 2) (eC (.int 1))) (e2 oIx (eV 3) (eC (.int 1))))))
def f_law_until : FnD := ⟨2, 4, true, b_law_until⟩
def w_law_by_0 (c : CallT) : TE := eCall c 111 [eV 0, eV 4]
def w_law_by_1 (c : CallT) : TE := eIf (e2 oGt (eV 6) (eV 5)) (eC (.str "1")) (eC (.str "0"))
def b_law_by : CallT → TSt := fun c => tSeq (tSet (.nm 3) (eLc [4] (.nm 4) (sN iRng2 [eV 1, e2 oAdd (e2 oAdd (eV 1) (eV 2)) (eC (.int 1))]) (eC (.bl true)) (w_law_by_0 c))) (tRet (eM isStrD oJoin (eC (.str "")) [eLc [5, 6] (.tp [.nm 5, .nm 6]) (sN iZip [eV 3, eCutL (eV 3) (eC (.int 1))]) (eC (.bl true)) (w_law_by_1 c)]))
def f_law_by : FnD := ⟨3, 7, true, b_law_by⟩
def b_law_step : CallT → TSt := fun c => tSeq (tSet (.nm 2) (e2 oAdd (eC (.int 1)) (eCall c 90 [eV 0, eCall c 91 [eV 0, eLst [eC (.int 3), eC (.int 12), eV 1, eV 1]]]))) (tRet (eCall c 110 [eCall c 90 [eV 0, e2 oAdd (eV 2) (eC (.int 1))], eV 2]))
def f_law_step : FnD := ⟨2, 3, true, b_law_step⟩
def w_law_spots_0 (c : CallT) : TSt := tSeq (tSet (.nm 3) (e2 oMod (eN oInt [e2 oAdd (eV 3) (e2 oIx (eV 0) (eC (.int 0)))]) (e2 oIx (eV 0) (eC (.int 1))))) (tPutK (eV 2) (eV 3) (eC (.bl true)))
def b_law_spots : CallT → TSt := fun c => tLoc (tSeq (tSet (.tp [.nm 2, .nm 3]) (eTup [eDctM [eC (.int 0), eC (.bl true)], eC (.int 0)])) (tSeq (tFor (.nm 4) (sN iRng1 [e2 oSub (eV 1) (eC (.int 1))]) (w_law_spots_0 c)) (tRet (eN oSortedI [eN oLstO [eV 2]]))))
def f_law_spots : FnD := ⟨2, 5, true, b_law_spots⟩
def w_law_far_0 (c : CallT) : TE := e2 oSub (eV 3) (eV 2)
def b_law_far : CallT → TSt := fun c => tRet (eLc [2, 3] (.tp [.nm 2, .nm 3]) (sN iZip [eV 0, e2 oAdd (eCutL (eV 0) (eC (.int 1))) (eLst [eV 1])]) (eC (.bl true)) (w_law_far_0 c))
def f_law_far : FnD := ⟨2, 4, true, b_law_far⟩
def w_law_told_right_0 (c : CallT) : TE := eTup [eV 8, eC (.bl true)]
def w_law_told_right_1 (c : CallT) : TE := eCall c 110 [eV 8, e2 oIx (eV 0) (eC (.int 1))]
def w_law_told_right_2 (c : CallT) : TE := eCall c 110 [eV 8, e2 oIx (eV 0) (eC (.int 1))]
def b_law_told_right : CallT → TSt := fun c => tSeq (tSet (.nm 2) (eCall c 352 [eV 0, eV 1])) (tSeq (tSet (.nm 3) (eCall c 353 [eV 2, e2 oIx (eV 0) (eC (.int 1))])) (tSeq (tSet (.nm 4) (eN oSortedI [eN oLstPrs [eLc [8] (.nm 8) (sSeq (eV 3)) (eC (.bl true)) (w_law_told_right_0 c)]])) (tSeq (tSet (.nm 5) (eN oTupleOf [eLc [8] (.nm 8) (sSeq (eV 2)) (eC (.bl true)) (w_law_told_right_1 c)])) (tSeq (tSet (.nm 6) (eN oTupleOf [eLc [8] (.nm 8) (sSeq (eV 4)) (eC (.bl true)) (w_law_told_right_2 c)])) (tSeq (tIf (eNot (eCall c 92 [eLst [eCall c 77 [eV 0, eV 1], eCall c 78 [eV 0, eV 1]], eLst [eV 5, eV 6]])) (tRet (eC (.bl false))) (tPass)) (tSeq (tIf (eOr (e2 oNe (eN oSum [eV 3]) (e2 oIx (eV 0) (eC (.int 1)))) (eOr (e2 oGt (eN oLen [eV 4]) (eC (.int 3))) (eAnd (e2 oEq (eN oLen [eV 4]) (eC (.int 3))) (e2 oNe (e2 oIx (eV 4) (eC (.int 2))) (e2 oAdd (e2 oIx (eV 4) (eC (.int 0))) (e2 oIx (eV 4) (eC (.int 1)))))))) (tRet (eC (.bl false))) (tPass)) (tSeq (tSet (.nm 7) (eCall c 110 [e2 oSub (e2 oIx (eV 0) (eC (.int 1))) (e2 oIx (eV 0) (eC (.int 0))), e2 oIx (eV 0) (eC (.int 1))])) (tRet (eAnd (eCall c 92 [eCall c 78 [eV 7, eV 1], eV 6]) (e2 oEq (eN oLen [eCall c 77 [eV 7, eV 1]]) (eN oLen [eV 5])))))))))))
def f_law_told_right : FnD := ⟨2, 9, true, b_law_told_right⟩
def w_law_rows_right_0 (c : CallT) : TSt := tSeq (tSet (.nm 4) (eCall c 110 [e2 oMod (eN oInt [e2 oSub (eC (.int 0)) (e2 oIx (eV 3) (eC (.int 0)))]) (e2 oIx (eV 3) (eC (.int 1))), e2 oIx (eV 3) (eC (.int 1))])) (tSeq (tSet (.nm 5) (eCall c 66 [eTup [eV 0, eV 4], eC (.int 0), e2 oSub (eV 1) (eC (.int 1))])) (tSeq (tIf (eNot (eCall c 92 [eV 5, eCall c 112 [eTup [eV 0, eV 4], eC (.int 0), e2 oSub (eV 1) (eC (.int 1))]])) (tRet (eC (.bl false))) (tPass)) (tPutK (eV 2) (eV 5) (eC (.bl true)))))
def w_law_rows_right_1 (c : CallT) : TSt := tPutK (eV 2) (eCall c 66 [eTup [eV 0, eCall c 110 [eV 6, e2 oIx (eV 0) (eC (.int 1))]], eC (.int 0), e2 oSub (eV 1) (eC (.int 1))]) (eC (.bl true))
def b_law_rows_right : CallT → TSt := fun c => tLoc (tSeq (tSet (.nm 2) (eDctM [])) (tSeq (tFor (.nm 3) (sSeq (eCall c 77 [eV 0, eV 1])) (w_law_rows_right_0 c)) (tSeq (tFor (.nm 6) (sN iRng1 [e2 oIx (eV 0) (eC (.int 1))]) (w_law_rows_right_1 c)) (tRet (e2 oEq (eN oLenO [eV 2]) (eN oLen [eCall c 77 [eV 0, eV 1]]))))))
def f_law_rows_right : FnD := ⟨2, 7, true, b_law_rows_right⟩
def w_law_drawn_step_0 (c : CallT) : TSt := tSet (.tp [.nm 2, .nm 3]) (eTup [eV 3, e2 oAdd (eV 2) (eV 3)])
def b_law_drawn_step : CallT → TSt := fun c => tSeq (tSet (.nm 1) (eCall c 90 [eV 0, eC (.int 5)])) (tSeq (tIf (e2 oEq (eV 1) (eC (.int 0))) (tRet (eCall c 91 [eV 0, eLst [eTup [eC (.int 0), eC (.int 1)], eTup [eC (.int 1), eC (.int 1)], eTup [eC (.int 1), eC (.int 2)], eTup [eC (.int 1), e2 oPow (eC (.int 10)) (eC (.int 4))], eTup [eC (.int 9999), e2 oPow (eC (.int 10)) (eC (.int 4))], eTup [eC (.int 4999), eC (.int 9999)], eTup [eC (.int 3333), eC (.int 9998)]]])) (tPass)) (tSeq (tIf (e2 oEq (eV 1) (eC (.int 1))) (tSeq (tSet (.tp [.nm 2, .nm 3]) (eTup [eC (.int 1), e2 oAdd (eC (.int 1)) (eCall c 90 [eV 0, eC (.int 3)])])) (tSeq (tFor (.nm 4) (sN iRng1 [e2 oAdd (eC (.int 2)) (eCall c 90 [eV 0, eC (.int 12)])]) (w_law_drawn_step_0 c)) (tRet (eCall c 110 [eV 2, eV 3])))) (tPass)) (tSeq (tIf (e2 oEq (eV 1) (eC (.int 2))) (tSeq (tSet (.tp [.nm 5, .nm 6]) (eTup [e2 oAdd (eC (.int 1)) (eCall c 90 [eV 0, eC (.int 9)]), e2 oAdd (eC (.int 10)) (eCall c 90 [eV 0, eC (.int 20)])])) (tSeq (tSet (.nm 7) (e2 oAdd (eC (.int 1)) (eCall c 90 [eV 0, eC (.int 300)]))) (tRet (eCall c 110 [e2 oAdd (e2 oMulL (eV 5) (eV 7)) (eCall c 90 [eV 0, eC (.int 2)]), e2 oAdd (e2 oMulL (eV 6) (eV 7)) (eC (.int 1))])))) (tPass)) (tRet (eCall c 113 [eV 0, e2 oPow (eC (.int 10)) (eC (.int 4))])))))
def f_law_drawn_step : FnD := ⟨1, 8, true, b_law_drawn_step⟩
def b_law_word_v6 : CallT → (Store → Res D) → TSt := fun c th => tSeq (tSet (.nm 1) (eC (.str "told"))) (tSeq (tTryAs 4 2 [3, 5, 7] (tExpr (eAct 0 th)) 0 (tSeq (tSet (.nm 3) (eLst [e1 (oIsE [3, 5, 7] 7) (eV 2), e1 (oIsE [3, 5, 7] 3) (eV 2)])) (tSet (.nm 1) (eIf (e2 oEqS (eM isLstD oCountL (eV 3) [eC (.bl true)]) (eC (.int 1))) (e2 oIx (eLst [eC (.str "step"), eC (.str "number")]) (eM isLstD oIndexL (eV 3) [eC (.bl true)])) (eC (.str "other")))))) (tRet (eV 1)))
def w_law_refused_right_v3_0 (c : CallT) : TSt := tSeq (tSet (.tp [.nm 5, .nm 6]) (eTup [eCall c 91 [eV 0, eV 2], eCall c 91 [eV 0, eV 3]])) (tSeq (tSet (.nm 7) (eLstM [eTold (deep c) 3 (b_law_word_v6 c) (eCall c 1000077 [eV 5, eV 6])])) (tSeq (tExpr (eM isLstD oAppend (eV 7) [eTold (deep c) 3 (b_law_word_v6 c) (eCall c 1000078 [eV 5, eV 6])])) (tSeq (tExpr (eM isLstD oAppend (eV 7) [eTold (deep c) 3 (b_law_word_v6 c) (eCall c 1000077 [eV 5, eC (.int 3)])])) (tSeq (tExpr (eM isLstD oAppend (eV 7) [eTold (deep c) 3 (b_law_word_v6 c) (eCall c 1000078 [eV 5, eC (.int 500)])])) (tSeq (tExpr (eM isLstD oAppend (eV 7) [eTold (deep c) 3 (b_law_word_v6 c) (eCall c 1000077 [eV 1, eV 6])])) (tSeq (tExpr (eM isLstD oAppend (eV 7) [eTold (deep c) 3 (b_law_word_v6 c) (eCall c 1000078 [eV 1, eV 6])])) (tSeq (tExpr (eM isLstD oAppend (eV 7) [eTold (deep c) 3 (b_law_word_v6 c) (eCall c 1000078 [eV 1, e2 oAdd (eC (.int 1)) (eCall c 1000090 [eV 0, eC (.int 500)])])])) (tFrz 7 (tIf (e2 oNe (eV 7) (e2 oAdd (e2 oAdd (e2 oMulL (eLst [eC (.str "step")]) (eC (.int 4))) (e2 oMulL (eLst [eC (.str "number")]) (eC (.int 2)))) (eLst [eC (.str "told")]))) (tRet (eC (.bl false))) (tPass))))))))))
def b_law_refused_right_v3 : CallT → TSt := fun c => tSeq (tSet (.nm 1) (eCall c 356 [eV 0])) (tSeq (tSet (.nm 2) (eLstM [eC .non, eC (.int 0), eC (.int 1), eC (.bl true), eC (.str "1/2"), eTup [eC (.int 1)], eTup [eC (.int 2), eC (.int 4)], eTup [eC (.int 0), eC (.int 2)], eTup [e1 oNeg (eC (.int 1)), eC (.int 2)], eTup [eC (.int 3), eC (.int 2)], eTup [eC (.int 1), eC (.int 0)], eTup [eC (.int 1), e1 oNeg (eC (.int 2))], eLst [eC (.int 1), eC (.int 2)], eTup [eC (.int 1), eC (.int 2), eC (.int 3)]])) (tSeq (tExpr (eM isLstD oAppend (eV 2) [eTup [eC (.int 1), eC (.int 10001)]])) (tSeq (tFrz 2 (tSet (.nm 2) (e2 oAddM (eV 2) (eLst [eTup [eC (.bl true), eC (.int 1)], eTup [eC (.int 1), eC (.bl true)], eTup [eC (.int 0), eC (.int 0)], eTup [eC (.str "1"), eC (.str "2")], eTup [eC .non, eC (.int 1)], eTup [e2 oPow (eC (.int 10)) (eC (.int 30)), e2 oAdd (e2 oPow (eC (.int 10)) (eC (.int 30))) (eC (.int 1))], eTup [e1 oNeg (e2 oPow (eC (.int 10)) (eC (.int 30))), eC (.int 1)], eDct [], eTup []])))) (tSeq (tSet (.nm 3) (eLst [eC (.int 0), e1 oNeg (eC (.int 1)), eC (.int 501), eC .non, eC (.bl true), eC (.str "5"), eTup [eC (.int 5)], eLst [], e2 oPow (eC (.int 10)) (eC (.int 9)), e2 oPow (eC (.int 10)) (eC (.int 30))])) (tSeq (tFor (.nm 4) (sN iRng1 [eC (.int 4)]) (w_law_refused_right_v3_0 c)) (tRet (eC (.bl true))))))))
def f_law_refused_right_v3 : FnD := ⟨1, 8, false, b_law_refused_right_v3⟩
def b_law_known_right_v2 : CallT → TSt := fun c => tSeq (tSet (.nm 0) (eLst [eCall c 77 [eTup [eC (.int 2), eC (.int 5)], eC (.int 4)], eCall c 78 [eTup [eC (.int 2), eC (.int 5)], eC (.int 4)], eCall c 77 [eTup [eC (.int 0), eC (.int 1)], eC (.int 9)], eCall c 78 [eTup [eC (.int 0), eC (.int 1)], eC (.int 9)], eCall c 77 [eTup [eC (.int 1), eC (.int 1)], eC (.int 2)], eCall c 78 [eTup [eC (.int 1), eC (.int 3)], eC (.int 500)]])) (tSeq (tSet (.nm 1) (eLst [eTup [eTup [eC (.int 0), eC (.int 1)], eTup [eC (.int 1), eC (.int 5)], eTup [eC (.int 2), eC (.int 5)], eTup [eC (.int 4), eC (.int 5)]], eTup [eTup [eC (.int 1), eC (.int 5)], eTup [eC (.int 2), eC (.int 5)]], eTup [eTup [eC (.int 0), eC (.int 1)]], eTup [eTup [eC (.int 1), eC (.int 1)]], eTup [eTup [eC (.int 0), eC (.int 1)]], eTup [eTup [eC (.int 1), eC (.int 3)]]])) (tSeq (tSet (.nm 0) (e2 oAdd (eV 0) (eLst [eCall c 77 [eTup [eC (.int 5), eC (.int 8)], eC (.int 4)], eCall c 78 [eTup [eC (.int 5), eC (.int 8)], eC (.int 4)], eCall c 78 [eTup [eC (.int 5), eC (.int 8)], eC (.int 1)], eCall c 77 [eTup [eC (.int 1), eC (.int 2)], eC (.int 500)], eCall c 78 [eTup [eC (.int 3), eC (.int 10)], eC (.int 5)]]))) (tSeq (tSet (.nm 1) (e2 oAdd (eV 1) (eLst [eTup [eTup [eC (.int 0), eC (.int 1)], eTup [eC (.int 1), eC (.int 4)], eTup [eC (.int 5), eC (.int 8)], eTup [eC (.int 7), eC (.int 8)]], eTup [eTup [eC (.int 1), eC (.int 8)], eTup [eC (.int 1), eC (.int 4)], eTup [eC (.int 3), eC (.int 8)]], eTup [eTup [eC (.int 1), eC (.int 1)]], eTup [eTup [eC (.int 0), eC (.int 1)], eTup [eC (.int 1), eC (.int 2)]]]))) (tRet (eCall c 92 [eV 0, e2 oAdd (eV 1) (eLst [eTup [eTup [eC (.int 1), eC (.int 10)], eTup [eC (.int 1), eC (.int 5)], eTup [eC (.int 3), eC (.int 10)]]])])))))
def f_law_known_right_v2 : FnD := ⟨0, 2, true, b_law_known_right_v2⟩
def w_law_v24_0 (c : CallT) : TSt := tIf (eNot (eCall c 354 [eV 3, eV 5])) (tRet (eC (.bl false))) (tPass)
def w_law_v24_1 (c : CallT) : TSt := tSeq (tSet (.nm 3) (eCall c 356 [eV 1])) (tSeq (tSet (.nm 4) (eCall c 91 [eV 1, eLst [eC (.int 1), eC (.int 2), eC (.int 500), eN oMin2 [eC (.int 500), e2 oIx (eV 3) (eC (.int 1))], eN oMin2 [eC (.int 500), e2 oAdd (e2 oIx (eV 3) (eC (.int 1))) (eC (.int 1))], eN oMax2 [eC (.int 1), eN oMin2 [eC (.int 500), e2 oSub (e2 oIx (eV 3) (eC (.int 1))) (eC (.int 1))]]]])) (tFor (.nm 5) (sSeq (eTup [eV 4, e2 oAdd (eC (.int 1)) (eCall c 90 [eV 1, eC (.int 500)]), e2 oAdd (eC (.int 1)) (eCall c 90 [eV 1, eC (.int 12)])])) (w_law_v24_0 c)))
def w_law_v24_2 (c : CallT) : TSt := tIf (eNot (eCall c 355 [eCall c 113 [eV 1, eC (.int 40)], e2 oAdd (eC (.int 2)) (eCall c 90 [eV 1, eC (.int 30)])])) (tRet (eC (.bl false))) (tPass)
def b_law_v24 : CallT → TSt := fun c => tSeq (tSet (.nm 1) (eCall c 89 [eV 0])) (tSeq (tIf (eOr (eNot (eCall c 359 [])) (eNot (eCall c 358 [eV 1]))) (tRet (eC (.bl false))) (tPass)) (tSeq (tFor (.nm 2) (sN iRng1 [eC (.int 6)]) (w_law_v24_1 c)) (tSeq (tFor (.nm 2) (sN iRng1 [eC (.int 3)]) (w_law_v24_2 c)) (tRet (eC (.bl true))))))
def f_law_v24 : FnD := ⟨1, 6, true, b_law_v24⟩
def Lib : Prog
  | 1 => some f_is_integer
  | 2 => some f_is_within
  | 3 => some f_is_tuple_of
  | 4 => some f_common
  | 5 => some f_is_fraction
  | 6 => some f_frac
  | 10 => some f_less
  | 56 => some f_places
  | 61 => some f_is_line
  | 62 => some f_is_rule
  | 63 => some f_check_rule
  | 64 => some f_total_to
  | 65 => some f_row_of
  | 66 => some f_made
  | 76 => some f_check_marks
  | 77 => some f_marks
  | 78 => some f_arcs
  | 89 => some f_law_hand
  | 90 => some f_law_draw
  | 91 => some f_law_any
  | 92 => some f_law_is
  | 109 => some f_law_gcd
  | 110 => some f_law_frac
  | 111 => some f_law_until
  | 112 => some f_law_by
  | 113 => some f_law_step
  | 352 => some f_law_spots
  | 353 => some f_law_far
  | 354 => some f_law_told_right
  | 355 => some f_law_rows_right
  | 356 => some f_law_drawn_step
  | 358 => some f_law_refused_right_v3
  | 359 => some f_law_known_right_v2
  | 360 => some f_law_v24
  | _ => none
end Q
namespace Q
open PySem L2
section
variable {n : Nat} {S : Store}
theorem oDiv_62 {i j : Int} (h1 : 0 < j) (h2 : j < 4611686018427387904) : oDiv (.int i) (.int j) S = some (.int (i / j), S) := oDiv_big h1 (by
  have h3 : j.natAbs < 2 ^ 62 := by omega
  have := PySem.Flt.log2_lt_of (by decide) h3
  omega)
theorem c_is_integer (i : Int) : callN Lib (n + 1) 1 [.int i] S = .ok (.bl true) S := by
  rw [callN_eq (d := f_is_integer) rfl]
  refine run_keep rfl ?_
  simp [b_is_integer, oIsi, Ty.of, Ty.eqb]
theorem c_is_within (i l h : Int) : callN Lib (n + 2) 2 [.int i, .int l, .int h] S = .ok (.bl (decide (l ≤ i ∧ i ≤ h))) S := by
  rw [callN_eq (d := f_is_within) rfl]
  refine run_keep rfl ?_
  simp [b_is_within, c_is_integer]
  by_cases h1 : l ≤ i <;> simp [h1]
theorem shaped_int (i : Int) : SeqAt.shaped (.int i) = true := by unfold SeqAt.shaped; rfl
theorem c_is_tuple_of (ds : List D) (k : Int) : callN Lib (n + 1) 3 [.tup ds, .int k] S = .ok (.bl (decide ((ds.length : Int) = k))) S := by
  rw [callN_eq (d := f_is_tuple_of) rfl]
  refine run_keep rfl ?_
  simp [b_is_tuple_of, oIsi, Ty.of, Ty.eqb]
def rul (p q a b : Int) : D := .tup [.tup [.int p, .int q], .tup [.int a, .int b]]
abbrev IsRule' (p q a b : Int) : Prop := 0 ≤ p ∧ p ≤ q ∧ 0 ≤ a ∧ a < b ∧ q ≤ 10000 ∧ b ≤ 10000
structure IsRule (p q a b : Int) : Prop where
  q1 : 1 ≤ q
  q2 : q ≤ 10000
  p0 : 0 ≤ p
  p1 : p ≤ q
  pq : Int.gcd p q = 1
  b1 : 1 ≤ b
  b2 : b ≤ 10000
  a0 : 0 ≤ a
  a1 : a < b
  ab : Int.gcd a b = 1
theorem gcd_turns (c : CallT) : ∀ (m : Nat) (x y : Nat), y ≤ m → ∃ k, k ≤ m + 1 ∧ whL (e2 oGt (eV 1) (eC (.int 0))) (tSet (.tp [.nm 0, .nm 1]) (eTup [eV 1, e2 oMod (eV 0) (eV 1)])) k [some (.int x), some (.int y)] S = some (.nx [some (.int (Nat.gcd x y : Nat)), some (.int 0)], S) := by
  intro m
  induction m with
  | zero =>
    intro x y hy
    obtain rfl : y = 0 := by omega
    refine ⟨1, by omega, ?_⟩
    simp [whL]
  | succ m ih =>
    intro x y hy
    by_cases h0 : y = 0
    · subst h0
      refine ⟨1, by omega, ?_⟩
      simp [whL]
    · have hlt : x % y < y := Nat.mod_lt _ (by omega)
      obtain ⟨k, hk, e⟩ := ih y (x % y) (by omega)
      refine ⟨k + 1, by omega, ?_⟩
      have hp : (0 : Int) < (y : Int) := by omega
      unfold whL
      simp [hp, oMod_pos hp]
      have e2 : ((x : Int) % (y : Int)) = ((x % y : Nat) : Int) := by simp
      rw [e2, e, Nat.gcd_comm y (x % y), ← Nat.gcd_rec y x, Nat.gcd_comm y x]
      have h1 : 0 < y := by omega
      simp [h1]
theorem c_common (x y : Int) (hy : y.natAbs < 2 ^ 59) : callN Lib (n + 1) 4 [.int x, .int y] S = .ok (.int (Int.gcd x y : Nat)) S := by
  rw [callN_eq (d := f_common) rfl]
  refine run_keep rfl ?_
  have ex : (if x < 0 then -x else x) = ((x.natAbs : Nat) : Int) := by split <;> omega
  have ey : (if y < 0 then -y else y) = ((y.natAbs : Nat) : Int) := by split <;> omega
  obtain ⟨k, hk, e⟩ := gcd_turns (S := S) (callN Lib n) y.natAbs x.natAbs y.natAbs (Nat.le_refl _)
  have e2 := while_of e (by show k ≤ 2 ^ 60; omega)
  simp [b_common, w_common_0, ex, ey, e2]
  rfl
theorem c_is_fraction (x y : Int) (h : y.natAbs < 2 ^ 59) : callN Lib (n + 2) 5 [.tup [.int x, .int y]] S = .ok (.bl (decide (1 ≤ y ∧ Int.gcd x y = 1))) S := by
  rw [callN_eq (d := f_is_fraction) rfl]
  refine run_keep rfl ?_
  simp [b_is_fraction, c_is_tuple_of, c_is_integer, c_common x y h]
  by_cases h1 : 1 ≤ y
  · simp [h1]; omega
  · simp [h1]
theorem c_less (a b c d : Int) (hb : b.natAbs < 2 ^ 60) (hd : d.natAbs < 2 ^ 60) : callN Lib (n + 1) 10 [.tup [.int a, .int b], .tup [.int c, .int d]] S = .ok (.bl (decide (a * d < c * b))) S := by
  rw [callN_eq (d := f_less) rfl]
  refine run_keep rfl ?_
  have h1 : -(2 ^ 64) < b := by omega
  have h2 : b < 2 ^ 64 := by omega
  have h3 : -(2 ^ 64) < d := by omega
  have h4 : d < 2 ^ 64 := by omega
  simp [b_less, oMul_r h1 h2, oMul_r h3 h4]
theorem c_is_rule (p q a b : Int) (hp : p.natAbs < 2 ^ 59) (hq : q.natAbs < 2 ^ 59) (ha : a.natAbs < 2 ^ 59) (hb : b.natAbs < 2 ^ 59) : ∃ t, callN Lib (n + 4) 62 [rul p q a b] S = .ok (.bl t) S ∧ (t = true ↔ IsRule p q a b) := by
  by_cases h : (1 ≤ q ∧ Int.gcd p q = 1) ∧ (1 ≤ b ∧ Int.gcd a b = 1)
  · refine ⟨decide (IsRule' p q a b), ?_, ?_⟩
    · rw [callN_eq (d := f_is_rule) rfl]
      refine run_keep rfl ?_
      have hl : callN Lib (n + 3) 61 [rul p q a b] S = .ok (.bl (decide (0 ≤ p ∧ p ≤ q ∧ 0 ≤ a ∧ a < b))) S := by
        rw [callN_eq (d := f_is_line) rfl]
        refine run_keep rfl ?_
        have l1 := c_less (n := n + 1) (S := S) p q 0 1 (by omega) (by decide)
        have l2 := c_less (n := n + 1) (S := S) 1 1 p q (by decide) (by omega)
        have l3 := c_less (n := n + 1) (S := S) a b 0 1 (by omega) (by decide)
        have l4 := c_less (n := n + 1) (S := S) a b 1 1 (by omega) (by decide)
        simp [b_is_line, rul, c_is_tuple_of, c_is_fraction p q hq, c_is_fraction a b hb, h, l1, l2, l3, l4]
        by_cases h1 : p < 0
        · simp [h1]; omega
        · by_cases h2 : q < p
          · simp [h1, h2]; omega
          · have h5 : 0 ≤ p := by omega
            have h6 : p ≤ q := by omega
            by_cases h3 : 0 ≤ a
            · simp [h1, h2, h3, h5, h6, l3, l4]
            · simp [h1, h2, h3, l3, l4]
      simp only [rul] at hl ⊢
      simp [b_is_rule, hl]
      by_cases h1 : 0 ≤ p ∧ p ≤ q ∧ 0 ≤ a ∧ a < b
      · by_cases h2 : q ≤ 10000 <;> simp [h1, h2, IsRule']
      · have h3 : ¬ IsRule' p q a b := fun z => h1 ⟨z.1, z.2.1, z.2.2.1, z.2.2.2.1⟩
        simp [h1, h3]
        omega
    · simp only [decide_eq_true_eq, IsRule']
      constructor
      · rintro ⟨h1, h2, h3, h4, h5, h6⟩
        exact ⟨h.1.1, h5, h1, h2, h.1.2, h.2.1, h6, h3, h4, h.2.2⟩
      · intro r
        exact ⟨r.p0, r.p1, r.a0, r.a1, r.q2, r.b2⟩
  · refine ⟨false, ?_, ?_⟩
    · rw [callN_eq (d := f_is_rule) rfl]
      refine run_keep rfl ?_
      have hl : callN Lib (n + 3) 61 [rul p q a b] S = .ok (.bl false) S := by
        rw [callN_eq (d := f_is_line) rfl]
        refine run_keep rfl ?_
        simp [b_is_line, rul, c_is_tuple_of, c_is_fraction p q hq, c_is_fraction a b hb]
        by_cases h1 : q < 1
        · simp [h1]
        · by_cases h2 : Int.gcd p q = 1
          · have h3 : ¬ (1 ≤ b ∧ Int.gcd a b = 1) := fun z => h ⟨⟨by omega, h2⟩, z⟩
            by_cases h4 : b < 1
            · simp [h1, h2, h4]
            · have h5 : ¬ Int.gcd a b = 1 := fun z => h3 ⟨by omega, z⟩
              simp [h1, h2, h4, h5]
          · simp [h1, h2]
      simp only [rul] at hl ⊢
      simp [b_is_rule, hl]
    · simp only [Bool.false_eq_true, false_iff]
      intro r
      exact h ⟨⟨r.q1, r.pq⟩, r.b1, r.ab⟩
theorem c_check_rule {p q a b : Int} (r : IsRule p q a b) : callN Lib (n + 5) 63 [rul p q a b] S = .ok .non S := by
  rw [callN_eq (d := f_check_rule) rfl]
  have h := r.q2; have h2 := r.p1; have h3 := r.b2; have h4 := r.a1; have h5 := r.p0; have h6 := r.a0; have h7 := r.q1
  obtain ⟨t, e, ht⟩ := c_is_rule (n := n) (S := S) p q a b (by omega) (by omega) (by omega) (by omega)
  rw [ht.mpr r] at e
  refine run_keep_nx (s' := [some (rul p q a b)]) rfl ?_
  simp [b_check_rule, e]
def tot (p q a b k : Int) : Int := (k * p * b + a * q) / (q * b)
theorem c_total_to {p q a b : Int} (r : IsRule p q a b) (k : Int) : callN Lib (n + 1) 64 [rul p q a b, .int k] S = .ok (.int (tot p q a b k)) S := by
  rw [callN_eq (d := f_total_to) rfl]
  refine run_keep rfl ?_
  have h := r.q2; have h2 := r.p1; have h3 := r.b2; have h4 := r.a1; have h5 := r.p0; have h6 := r.a0; have h7 := r.q1; have h8 := r.b1
  have m1 := fun (i : Int) (S : Store) => oMul_r (S := S) (i := i) (j := p) (by omega) (by omega)
  have m2 := fun (i : Int) (S : Store) => oMul_r (S := S) (i := i) (j := b) (by omega) (by omega)
  have m3 := fun (i : Int) (S : Store) => oMul_r (S := S) (i := i) (j := q) (by omega) (by omega)
  have b1 : 0 < q * b := Int.mul_pos (by omega) (by omega)
  have b2 : q * b ≤ 10000 * 10000 := Int.mul_le_mul h h3 (by omega) (by omega)
  have d1 := fun (i : Int) (S : Store) => oDiv_62 (S := S) (i := i) b1 (by omega)
  simp [b_total_to, rul, m1, m2, m3, d1]
  rfl
def dut (p q a b k : Int) : Bool := decide (tot p q a b k < tot p q a b (k + 1))
end
end Q
namespace Q
open PySem L2
structure Hand where
  cells : List Int
  pos : Int
  left : Int
  mix : Int
  cnt : Int
def Hand.d (h : Hand) : List D := [.lst (h.cells.map .int), .int h.pos, .int h.left, .int h.mix, .int h.cnt]
structure HandOk (h : Hand) : Prop where
  cells : ∀ c ∈ h.cells, 0 ≤ c
  pos : 0 ≤ h.pos
  left : 0 ≤ h.left
  mix : 0 ≤ h.mix
  cnt : 0 ≤ h.cnt
def Hd (k : Nat) (S : Store) : Prop := ∃ h : Hand, S.get k = some h.d ∧ HandOk h
def Upd (k : Nat) (S S' : Store) : Prop := ∃ xs, S' = S.put k xs
theorem Upd.refl {k : Nat} {S : Store} (h : Hd k S) : Upd k S S := h.elim fun h z => ⟨_, (put_self z.1).symm⟩
theorem Upd.trans {k : Nat} {S S1 S2 : Store} (a : Upd k S S1) (b : Upd k S1 S2) : Upd k S S2 := by
  obtain ⟨x, rfl⟩ := a
  obtain ⟨y, rfl⟩ := b
  exact ⟨y, put_put⟩
section
variable {S : Store} {k : Nat} {a b c d e v : D}
theorem hx0 (g : S.get k = some [a, b, c, d, e]) : oIx (.ptr k) (.int 0) S = some (a, S) := oIx_ptr (n := 0) g rfl
theorem hx1 (g : S.get k = some [a, b, c, d, e]) : oIx (.ptr k) (.int 1) S = some (b, S) := oIx_ptr (n := 1) g rfl
theorem hx2 (g : S.get k = some [a, b, c, d, e]) : oIx (.ptr k) (.int 2) S = some (c, S) := oIx_ptr (n := 2) g rfl
theorem hx3 (g : S.get k = some [a, b, c, d, e]) : oIx (.ptr k) (.int 3) S = some (d, S) := oIx_ptr (n := 3) g rfl
theorem hx4 (g : S.get k = some [a, b, c, d, e]) : oIx (.ptr k) (.int 4) S = some (e, S) := oIx_ptr (n := 4) g rfl
theorem hs1 {x : Int} (g : S.get k = some [a, b, c, d, e]) : setL (.ptr k) (.int 1) (.int x) S = some (S.put k [a, .int x, c, d, e]) := setL_ptr (n := 1) g (by simp) rfl
theorem hs2 {x : Int} (g : S.get k = some [a, b, c, d, e]) : setL (.ptr k) (.int 2) (.int x) S = some (S.put k [a, b, .int x, d, e]) := setL_ptr (n := 2) g (by simp) rfl
theorem hs3 {x : Int} (g : S.get k = some [a, b, c, d, e]) : setL (.ptr k) (.int 3) (.int x) S = some (S.put k [a, b, c, .int x, e]) := setL_ptr (n := 3) g (by simp) rfl
theorem hs4 {x : Int} (g : S.get k = some [a, b, c, d, e]) : setL (.ptr k) (.int 4) (.int x) S = some (S.put k [a, b, c, d, .int x]) := setL_ptr (n := 4) g (by simp) rfl
@[simp] theorem flat_int (i : Int) : (D.int i).flat = true := rfl
@[simp] theorem flat_bl (i : Bool) : (D.bl i).flat = true := rfl
@[simp] theorem flat_str (i : Str) : (D.str i).flat = true := rfl
@[simp] theorem flat_non : D.non.flat = true := rfl
@[simp] theorem flat_lst (xs : List D) : (D.lst xs).flat = flats xs := rfl
@[simp] theorem flat_tup (xs : List D) : (D.tup xs).flat = flats xs := rfl
@[simp] theorem flats_nil : flats [] = true := rfl
@[simp] theorem flats_cons (d : D) (ds : List D) : flats (d :: ds) = (d.flat && flats ds) := rfl
theorem flats_ints (ns : List Int) : flats (ns.map .int) = true := by
  induction ns with
  | nil => rfl
  | cons i ns ih => simp [ih]
end
theorem c_draw {n k : Nat} {S : Store} (H : Hd k S) (m : Int) (hm : 0 < m) (hm2 : m < 4611686018427387904) :
    ∃ r S', callN Lib (n + 1) 90 [.ptr k, .int m] S = .ok (.int r) S' ∧ Hd k S' ∧ Upd k S S' ∧ 0 ≤ r ∧ r < m := by
  obtain ⟨⟨cells, pos, left, mix, cnt⟩, g, ok⟩ := H
  obtain ⟨o1, o2, o3, o4, o5⟩ := ok
  simp only at o1 o2 o3 o4 o5
  simp only [Hand.d] at g
  obtain ⟨pn, rfl⟩ := Int.eq_ofNat_of_zero_le o2
  have ml : ∀ (x j : Int) (S : Store), oMulL (.int (x % 2147483647)) (.int j) S = some (.int (x % 2147483647 * j), S) := fun x j S => by
    have h1 := Int.emod_nonneg x (show (2147483647 : Int) ≠ 0 by decide)
    have h2 := Int.emod_lt_of_pos x (show (0 : Int) < 2147483647 by decide)
    exact oMul_l (by omega) (by omega)
  have m1 := fun (i : Int) (S : Store) => oMul_r (S := S) (i := i) (j := 69621) (by decide) (by decide)
  have m2 := fun (i : Int) (S : Store) => oMul_r (S := S) (i := i) (j := 40692) (by decide) (by decide)
  have m3 := fun (i : Int) (S : Store) => oMul_r (S := S) (i := i) (j := 48271) (by decide) (by decide)
  have m4 := fun (i : Int) (S : Store) => oMul_l (S := S) (i := 7919) (j := i) (by decide) (by decide)
  have r1 := fun (i : Int) (S : Store) => oMod_pos (S := S) (i := i) (j := 2147483629) (by decide)
  have r2 := fun (i : Int) (S : Store) => oMod_pos (S := S) (i := i) (j := 2147483647) (by decide)
  have r3 := fun (i : Int) (S : Store) => oMod_pos (S := S) (i := i) (j := 2147483563) (by decide)
  have d1 := fun (i : Int) (S : Store) => oDiv_small (S := S) (i := i) (j := 1009) (by decide) (by decide)
  have d2 := fun (i : Int) (S : Store) => oDiv_small (S := S) (i := i) (j := 2003) (by decide) (by decide)
  have d3 := fun (i : Int) (S : Store) => oDiv_small (S := S) (i := i) (j := 16) (by decide) (by decide)
  have rm := fun (i : Int) (S : Store) => oMod_pos (S := S) (i := i) (j := m) hm
  have dm := fun (i : Int) (S : Store) => oDiv_62 (S := S) (i := i) (j := m) hm hm2
  have gp : ∀ (a b c d e : D), (S.put k [a, b, c, d, e]).get k = some [a, b, c, d, e] := fun a b c d e => get_put_self g
  have p18 : (10 : Int) ^ 18 = 1000000000000000000 := by decide
  have pw : oPow (.int 10) (.int 18) = fun S => some (.int 1000000000000000000, S) := by
    funext S
    exact (oPow_10 (n := 18)).trans (by simp)
  have nn : ∀ x : Int, 0 ≤ x % 2147483629 := fun x => Int.emod_nonneg x (by decide)
  have rr : ∀ x : Int, 0 ≤ x % m ∧ x % m < m := fun x => ⟨Int.emod_nonneg x (by omega), Int.emod_lt_of_pos x hm⟩
  -- the two ends
  have main : ∃ r cells' pos' left' mix' cnt', callN Lib (n + 1) 90 [.ptr k, .int m] S = .ok (.int r) (S.put k [.lst (cells.map .int), .int pos', .int left', .int mix', .int cnt']) ∧ cells' = cells ∧ 0 ≤ pos' ∧ 0 ≤ left' ∧ 0 ≤ mix' ∧ 0 ≤ cnt' ∧ 0 ≤ r ∧ r < m := by
    rw [callN_eq (d := f_law_draw) rfl]
    by_cases c1 : left = 0 ∧ pn < cells.length
    · obtain ⟨c1, c2⟩ := c1
      subst c1
      have hc : (cells.map D.int)[pn]? = some (.int cells[pn]) := by simp [c2]
      have ic := fun S => oIx_lst (S := S) hc
      have c3 : (pn : Int) < (cells.length : Int) := by omega
      have hc0 : 0 ≤ cells[pn] := o1 _ (List.getElem_mem c2)
      by_cases c4 : 1000000000000000000 ≤ cells[pn]
      · have c5 : 0 < cells[pn] := by omega
        refine ⟨_, _, _, _, _, _, run_keep rfl (by simp [b_law_draw, hx0 g, hx1 g, hx2 g, hx3 g, hx4 g, hs1 g, hx0 (gp _ _ _ _ _), hx1 (gp _ _ _ _ _), hx2 (gp _ _ _ _ _), hx3 (gp _ _ _ _ _), hx4 (gp _ _ _ _ _), hs1 (gp _ _ _ _ _), hs2 (gp _ _ _ _ _), hs3 (gp _ _ _ _ _), hs4 (gp _ _ _ _ _), ml, m1, m2, m3, m4, r1, r2, r3, d1, d2, d3, rm, dm, pw, ic, c2, c4, c5]; exact ⟨rfl, rfl⟩), rfl, ?_, ?_, ?_, ?_, (rr _).1, (rr _).2⟩
        · omega
        · exact Int.ediv_nonneg hc0 (by omega)
        · exact nn _
        · exact o5
      · refine ⟨_, _, _, _, _, _, run_keep rfl (by simp [b_law_draw, hx0 g, hx1 g, hx2 g, hx3 g, hx4 g, hs1 g, hx0 (gp _ _ _ _ _), hx1 (gp _ _ _ _ _), hx2 (gp _ _ _ _ _), hx3 (gp _ _ _ _ _), hx4 (gp _ _ _ _ _), hs1 (gp _ _ _ _ _), hs2 (gp _ _ _ _ _), hs3 (gp _ _ _ _ _), hs4 (gp _ _ _ _ _), ml, m1, m2, m3, m4, r1, r2, r3, d1, d2, d3, rm, dm, pw, ic, c2, c4]; exact ⟨rfl, rfl⟩), rfl, ?_, ?_, ?_, ?_, (rr _).1, (rr _).2⟩
        · omega
        · exact Int.le_refl 0
        · exact nn _
        · omega
    · by_cases c2 : left = 0
      · subst c2
        have c3 : ¬ pn < cells.length := fun z => c1 ⟨rfl, z⟩
        refine ⟨_, _, _, _, _, _, run_keep rfl (by simp [b_law_draw, hx0 g, hx1 g, hx2 g, hx3 g, hx4 g, hs1 g, hs2 g, hs3 g, hs4 g, hx0 (gp _ _ _ _ _), hx1 (gp _ _ _ _ _), hx2 (gp _ _ _ _ _), hx3 (gp _ _ _ _ _), hx4 (gp _ _ _ _ _), ml, m1, m2, m3, m4, r1, r2, r3, d1, d2, d3, rm, dm, pw, c3]; exact ⟨rfl, rfl⟩), rfl, ?_, ?_, ?_, ?_, (rr _).1, (rr _).2⟩
        · exact o2
        · exact Int.le_refl 0
        · exact o4
        · omega
      · have c3 : 0 < left := by omega
        refine ⟨_, _, _, _, _, _, run_keep rfl (by simp [b_law_draw, hx0 g, hx1 g, hx2 g, hx3 g, hx4 g, hs1 g, hs2 g, hs3 g, hs4 g, ml, m1, m2, m3, m4, r1, r2, r3, d1, d2, d3, rm, dm, pw, c2, c3]; exact ⟨rfl, rfl⟩), rfl, ?_, ?_, ?_, ?_, (rr _).1, (rr _).2⟩
        · exact o2
        · exact Int.ediv_nonneg o3 (by omega)
        · exact o4
        · exact o5
  obtain ⟨r, cells', pos', left', mix', cnt', e, h1, h2, h3, h4, h5, h6, h7⟩ := main
  exact ⟨r, _, e, ⟨⟨cells, pos', left', mix', cnt'⟩, get_put_self g, ⟨o1, h2, h3, h4, h5⟩⟩, ⟨_, rfl⟩, h6, h7⟩
theorem c_any {n k : Nat} {S : Store} (H : Hd k S) (ds : List D) (h0 : 0 < ds.length) (h1 : (ds.length : Int) < 4611686018427387904) :
    ∃ d S', callN Lib (n + 2) 91 [.ptr k, .lst ds] S = .ok d S' ∧ Hd k S' ∧ Upd k S S' ∧ d ∈ ds := by
  obtain ⟨r, S', e, H', U, r0, r1⟩ := c_draw (n := n) H (ds.length : Int) (by omega) h1
  obtain ⟨rn, rfl⟩ := Int.eq_ofNat_of_zero_le r0
  have hr : rn < ds.length := by omega
  have hx : ds[rn]? = some ds[rn] := by simp [hr]
  refine ⟨ds[rn], S', ?_, H', U, List.getElem_mem hr⟩
  rw [callN_eq (d := f_law_any) rfl]
  refine run_keep rfl ?_
  simp [b_law_any, e, oIx_lst hx]
theorem mapNat (f : Int → D) (ns : List Int) : (ns.map D.int).map (fun d => match d with | .int i => f i | d => d) = ns.map f := by
  rw [List.map_map]
  rfl
theorem c_hand {n : Nat} {S : Store} (ns : List Int) : ∃ h : Hand, callN Lib (n + 1) 89 [.src ns] S = .ok (.ptr S.L.length) (S.new h.d) ∧ HandOk h := by
  have hl : (cutD ns none (some 63)).length ≤ 63 := by
    have e : (some (63 : Int)) = some ((63 : Nat) : Int) := rfl
    unfold cutD
    rw [e, HT.sIx_nat, HT.sIx_none, List.length_take]
    omega
  have lc : ∀ (t x : TE) (s : Sl), (∀ d ∈ (cutD ns none (some 63)).map D.int, t (s.set 2 (some d)) S = .ok (.bl true) S ∧ x (s.set 2 (some d)) S = .ok ((fun d => match d with | .int i => .int (if i < 0 then -i else i) | d => d) d) S) →
      lcL (.nm 2) t x s ((cutD ns none (some 63)).map D.int) [] S = .ok (.lst (((cutD ns none (some 63)).map fun i => if i < 0 then -i else i).map D.int)) S := fun t x s h => by
    rw [lc_map _ _ _ h (by simp; exact Nat.le_trans hl (by rw [PySem.sizeLine_eq]; decide)), mapNat, List.map_map]
    rfl
  obtain ⟨L, hL⟩ : ∃ L, L = (cutD ns none (some 63)).map fun i => if i < 0 then -i else i := ⟨_, rfl⟩
  rw [← hL] at lc
  have hL2 : L.length ≤ 63 := by rw [hL, List.length_map]; exact hl
  have main : ∃ mix : Int, callN Lib (n + 1) 89 [.src ns] S = .ok (.ptr S.L.length) (S.new [.lst (L.map D.int), .int 0, .int 0, .int mix, .int 0]) ∧ 0 ≤ mix := by
    refine ⟨?mix, ?e, ?h⟩
    case e =>
      rw [callN_eq (d := f_law_hand) rfl]
      refine run_keep rfl ?_
      simp only [b_law_hand, tSeq_eq, tSet_eq, eLc_eq, sSeq, eCutU, ePart]
      simp [oCut, partK]
      rw [lc]
      · simp [oMul_r (j := L.length) (by omega) (by omega), flats_ints]
        rfl
      · intro d hd
        obtain ⟨i, _, rfl⟩ := List.mem_map.mp hd
        simp [w_law_hand_0]
    case h => omega
  obtain ⟨mix, e, hm⟩ := main
  refine ⟨⟨L, 0, 0, mix, 0⟩, e, ⟨fun c hc => ?_, Int.le_refl 0, Int.le_refl 0, hm, Int.le_refl 0⟩⟩
  rw [hL] at hc
  obtain ⟨i, _, rfl⟩ := List.mem_map.mp hc
  split <;> omega
end Q
namespace Q
open PySem L2
def sgn (b : Bool) : Str := if b then "1" else "0"
def bit (b : Bool) : Nat := if b then 49 else 48
def wrd (l : List Bool) : Str := ⟨(l.map bit).toArray⟩
theorem sgn_wrd (b : Bool) : sgn b = ⟨#[bit b]⟩ := by cases b <;> decide +kernel
theorem join_sgn : ∀ l : List Bool, Txt.join ("" : Str) (l.map sgn) = wrd l := fun l => by
  show Builtin.Str.glued _ _ = _
  rw [StrLaws.glued_eq_join]
  have e0 : ("" : Str) = ⟨#[]⟩ := by decide +kernel
  have ap : ∀ a b : Str, a ++ b = ⟨a.cps ++ b.cps⟩ := fun _ _ => rfl
  induction l with
  | nil => rfl
  | cons b l ih =>
    cases l with
    | nil => rw [List.map_cons, List.map_nil]; show sgn b = _; rw [sgn_wrd]; rfl
    | cons c l =>
      rw [List.map_cons, List.map_cons] at *
      show sgn b ++ ("" : Str) ++ Str.join ("" : Str) (sgn c :: l.map sgn) = _
      rw [ih, sgn_wrd, e0, ap, ap]
      simp [wrd]
theorem strs_map (l : List Bool) : strsOf (l.map fun b => D.str (sgn b)) = some (l.map sgn) := by
  induction l with
  | nil => rfl
  | cons b l ih => rw [List.map_cons, List.map_cons]; simp [strsOf, ih]
theorem sgn_len (b : Bool) : (sgn b).length = 1 := by cases b <;> decide +kernel
theorem sgns_sum (l : List Bool) : ((l.map sgn).map (·.length)).sum = l.length := by
  induction l with
  | nil => rfl
  | cons b l ih => simp [sgn_len] at *; omega
theorem oJoin_sgn {S : Store} {l : List Bool} (h : l.length ≤ 16777216) : oJoin [.str ("" : Str), .lst (l.map fun b => D.str (sgn b))] S = some (.str (wrd l), S) := by
  have e : ("" : Str).length = 0 := by decide +kernel
  unfold oJoin
  simp only [strs_map, sgns_sum, List.length_map, e]
  rw [if_pos (by omega), join_sgn]
theorem wrd_inj {l m : List Bool} (h : wrd l = wrd m) : l = m := by
  have e : (l.map bit).toArray = (m.map bit).toArray := congrArg Str.cps h
  have e2 : l.map bit = m.map bit := by simpa using congrArg Array.toList e
  clear h e
  induction l generalizing m with
  | nil => cases m with
    | nil => rfl
    | cons b m => cases e2
  | cons a l ih => cases m with
    | nil => cases e2
    | cons b m =>
      rw [List.map_cons, List.map_cons] at e2
      injection e2 with h1 h2
      rw [ih h2]
      cases a <;> cases b <;> first | rfl | cases h1
theorem wrd_len (l : List Bool) : (wrd l).length = l.length := by simp [wrd, Str.length]
def days (p q a b first : Int) (m : Nat) : List Bool := (List.range m).map fun (i : Nat) => dut p q a b (first + i)
theorem days_len (p q a b first : Int) (m : Nat) : (days p q a b first m).length = m := by simp [days]
section
variable {n : Nat} {S : Store}
theorem rngL_len (lo : Int) (m : Nat) : (rngL lo m).length = m := by simp [rngL]
theorem rngL_mem {lo : Int} {m : Nat} {d : D} (h : d ∈ rngL lo m) : ∃ i : Nat, i < m ∧ d = .int (lo + i) := by
  unfold rngL at h
  obtain ⟨i, hi, rfl⟩ := List.mem_map.mp h
  exact ⟨i, List.mem_range.mp hi, rfl⟩
theorem lc_rng {i : Nat} {t e : TE} {s : Sl} {S : Store} {m : Nat} (f : Nat → D) (h : ∀ j : Nat, j < m → t (s.set i (some (.int j))) S = .ok (.bl true) S ∧ e (s.set i (some (.int j))) S = .ok (f j) S) (hm : m ≤ 16777216) :
    lcL (.nm i) t e s (rngL 0 m) [] S = .ok (.lst ((List.range m).map f)) S := by
  rw [lc_map (fun d => match d with | .int j => f j.toNat | d => d)]
  · unfold rngL
    rw [List.map_map, List.nil_append]
    congr 2
    refine List.map_congr_left fun j _ => ?_
    simp
  · intro d hd
    obtain ⟨j, hj, rfl⟩ := rngL_mem hd
    have := h j hj
    simpa using this
  · rw [rngL_len, PySem.sizeLine_eq]
    simpa using hm
theorem iRng1_nat {m : Nat} (h : m < 4611686018427387904) : iRng1 [.int m] = some (rngL 0 m) := by
  have : rngOk (m : Int) = true := by
    unfold rngOk
    simp only [Bool.and_eq_true, decide_eq_true_eq]
    omega
  simp [iRng1, this]
theorem b_row_of_ok (c : CallT) {p q a b : Int} (first : Int) (m : Nat) (hm : m < 16777216) (hc : ∀ k, c 64 [rul p q a b, .int k] S = .ok (.int (tot p q a b k)) S) : b_row_of c [some (rul p q a b), some (.int first), some (.int m), none, none] S = some (.ret (.str (wrd (days p q a b first m))), S) := by
  have r1 : iRng1 [.int ((m : Int) + 1)] = some (rngL 0 (m + 1)) := iRng1_nat (m := m + 1) (by omega)
  have r2 := iRng1_nat (m := m) (by omega)
  have l1 : ∀ s : Sl, s[0]? = some (some (rul p q a b)) → s[1]? = some (some (.int first)) → 4 < s.length → lcL (.nm 4) (eC (.bl true)) (eCall c 64 [eV 0, e2 oAdd (eV 1) (eV 4)]) s (rngL 0 (m + 1)) [] S = .ok (.lst ((List.range (m + 1)).map fun (i : Nat) => .int (tot p q a b (first + i)))) S := fun s h0 h1 h4 =>
    lc_rng _ (fun j hj => ⟨rfl, by simp [h0, h1, h4, hc]⟩) (by omega)
  have l2 : ∀ s : Sl, s[3]? = some (some (.lst ((List.range (m + 1)).map fun (i : Nat) => .int (tot p q a b (first + i))))) → 4 < s.length → lcL (.nm 4) (eC (.bl true)) (eIf (e2 oGt (e2 oIx (eV 3) (e2 oAdd (eV 4) (eC (.int 1)))) (e2 oIx (eV 3) (eV 4))) (eC (.str "1")) (eC (.str "0"))) s (rngL 0 m) [] S = .ok (.lst ((days p q a b first m).map fun b => .str (sgn b))) S := fun s h3 h4 => by
    rw [lc_rng (fun j => .str (sgn (dut p q a b (first + j)))) (fun j hj => ⟨rfl, ?_⟩) (by omega)]
    · unfold days
      rw [List.map_map]
      rfl
    · have i1 : ((List.range (m + 1)).map fun (i : Nat) => D.int (tot p q a b (first + i)))[j + 1]? = some (.int (tot p q a b (first + (j + 1)))) := by
        rw [List.getElem?_map, List.getElem?_range (by omega)]
        simp
      have i2 : ((List.range (m + 1)).map fun (i : Nat) => D.int (tot p q a b (first + i)))[j]? = some (.int (tot p q a b (first + j))) := by
        rw [List.getElem?_map, List.getElem?_range (by omega)]
        simp
      have j1 : ∀ S, oIx (.lst ((List.range (m + 1)).map fun (i : Nat) => D.int (tot p q a b (first + i)))) (.int ((j : Int) + 1)) S = some (.int (tot p q a b (first + (j + 1))), S) := fun S => oIx_lst (n := j + 1) i1
      have j2 := fun S => oIx_lst (S := S) i2
      generalize ((List.range (m + 1)).map fun (i : Nat) => D.int (tot p q a b (first + i))) = l at h3 j1 j2
      unfold dut
      rw [← Int.add_assoc] at j1
      by_cases h : tot p q a b (first + j) < tot p q a b (first + j + 1)
      · simp [h3, h4, j1, j2, h, sgn]
      · simp [h3, h4, j1, j2, h, sgn]
  have jn := oJoin_sgn (S := S) (l := days p q a b first m) (by rw [days_len]; omega)
  simp only [b_row_of, w_row_of_0, w_row_of_1, tSeq_eq, tSet_eq, eLc_eq, sN_eq]
  simp [r1, r2, l1, l2, isStrD, jn]
theorem c_row_of {p q a b : Int} (r : IsRule p q a b) (first : Int) (m : Nat) (hm : m < 16777216) : callN Lib (n + 2) 65 [rul p q a b, .int first, .int m] S = .ok (.str (wrd (days p q a b first m))) S := by
  rw [callN_eq (d := f_row_of) rfl]
  exact run_keep rfl (b_row_of_ok (callN Lib (n + 1)) first m hm fun k => c_total_to r k)
theorem b_made_ok (c : CallT) (rr z : D) (first mm : Int) (w0 : c 63 [rr] S = .ok .non S) (w1 : c 2 [.int first, .int 0, .int 1000000000000] S = .ok (.bl true) S)  (w2 : c 2 [.int mm, .int 1, .int 500] S = .ok (.bl true) S) (w3 : c 65 [rr, .int first, .int mm] S = .ok z S) : b_made c [some rr, some (.int first), some (.int mm)] S = some (.ret z, S) := by
  simp [b_made, w0, w1, w2, w3]
theorem c_made {p q a b : Int} (r : IsRule p q a b) (first : Int) (m : Nat) (h0 : 0 ≤ first) (h1 : first ≤ 1000000000000) (hm : 1 ≤ m) (hm2 : m ≤ 500) : callN Lib (n + 6) 66 [rul p q a b, .int first, .int m] S = .ok (.str (wrd (days p q a b first m))) S := by
  rw [callN_eq (d := f_made) rfl]
  have w1 : callN Lib (n + 5) 2 [.int first, .int 0, .int 1000000000000] S = .ok (.bl true) S := by
    rw [c_is_within, decide_eq_true ⟨h0, h1⟩]
  have w2 : callN Lib (n + 5) 2 [.int m, .int 1, .int 500] S = .ok (.bl true) S := by
    rw [c_is_within, decide_eq_true ⟨by omega, by omega⟩]
  have w3 := c_row_of (n := n + 3) (S := S) r first m (by omega)
  exact run_keep rfl (b_made_ok (callN Lib (n + 5)) (rul p q a b) _ first m (c_check_rule r) w1 w2 w3)
theorem c_frac (x y : Int) (hy : 0 < y) (hy2 : y < 1000000000) : callN Lib (n + 2) 6 [.int x, .int y] S = .ok (.tup [.int (x / (Int.gcd x y : Nat)), .int (y / (Int.gcd x y : Nat))]) S := by
  rw [callN_eq (d := f_frac) rfl]
  refine run_keep rfl ?_
  have g1 : 0 < Int.gcd x y := Int.gcd_pos_of_ne_zero_right _ (by omega)
  have g2 : (Int.gcd x y : Int) ≤ y := Int.le_of_dvd hy (Int.gcd_dvd_right ..)
  have d := fun (i : Int) (S : Store) => oDiv_62 (S := S) (i := i) (j := (Int.gcd x y : Nat)) (by omega) (by omega)
  have h : ¬ y < 0 := by omega
  simp [b_frac, c_common x y (by omega), h, d]
end
end Q
namespace Q
def kk (q a b : Int) : Int := q * a / b
theorem tot_kk {p q a b : Int} (r : IsRule p q a b) (n : Int) : tot p q a b n = (n * p + kk q a b) / q := by
  unfold tot kk
  have hq := r.q1
  have hb := r.b1
  rw [Int.mul_comm q b, ← Int.ediv_ediv_of_nonneg (by omega : (0 : Int) ≤ b)]
  congr 1
  rw [Int.mul_comm a q, Int.add_comm, Int.add_mul_ediv_right _ _ (by omega : b ≠ 0), Int.add_comm]
theorem kk_nn {p q a b : Int} (r : IsRule p q a b) : 0 ≤ kk q a b := by
  unfold kk
  have hq := r.q1
  have hb := r.b1
  have ha := r.a0
  exact Int.ediv_nonneg (Int.mul_nonneg (by omega) ha) (by omega)
theorem kk_lt {p q a b : Int} (r : IsRule p q a b) : kk q a b < q := by
  unfold kk
  have hq := r.q1
  have hb := r.b1
  have ha := r.a1
  exact Int.ediv_lt_of_lt_mul (by omega) (Int.mul_lt_mul_of_pos_left ha (by omega))
def tf (p q k n : Int) : Int := (n * p + k) / q
structure IsForm (p q k : Int) : Prop where
  q1 : 1 ≤ q
  p0 : 0 ≤ p
  p1 : p ≤ q
  pq : Int.gcd p q = 1
  k0 : 0 ≤ k
  k1 : k < q
theorem IsRule.form {p q a b : Int} (r : IsRule p q a b) : IsForm p q (kk q a b) := ⟨r.q1, r.p0, r.p1, r.pq, kk_nn r, kk_lt r⟩
section
variable {p q k p1 q1 k1 p2 q2 k2 : Int}
theorem tf_zero (r : IsForm p q k) : tf p q k 0 = 0 := by
  unfold tf
  rw [Int.zero_mul, Int.zero_add]
  exact Int.ediv_eq_zero_of_lt r.k0 r.k1
theorem tf_turn (r : IsForm p q k) (n : Int) : tf p q k (n + q) = tf p q k n + p := by
  unfold tf
  have hq := r.q1
  rw [show (n + q) * p + k = n * p + k + p * q by rw [Int.add_mul, Int.mul_comm q p]; omega]
  exact Int.add_mul_ediv_right _ _ (by omega)
theorem tf_step (r : IsForm p q k) (n : Int) : tf p q k n ≤ tf p q k (n + 1) ∧ tf p q k (n + 1) ≤ tf p q k n + 1 := by
  have hq := r.q1
  have hp := r.p0
  have hp1 := r.p1
  unfold tf
  constructor
  · refine Int.ediv_le_ediv (by omega) ?_
    rw [Int.add_mul]; omega
  · have h : (n * p + k + 1 * q) / q = (n * p + k) / q + 1 := Int.add_mul_ediv_right _ _ (by omega)
    rw [← h]
    refine Int.ediv_le_ediv (by omega) ?_
    rw [Int.add_mul]; omega
def df (p q k n : Int) : Bool := decide (tf p q k n < tf p q k (n + 1))
theorem dut_df {p q a b : Int} (r : IsRule p q a b) (n : Int) : dut p q a b n = df p q (kk q a b) n := by
  unfold dut df tf
  rw [tot_kk r, tot_kk r]
theorem tf_of_df (r1 : IsForm p1 q1 k1) (r2 : IsForm p2 q2 k2) (m : Nat) (h : ∀ n : Nat, n < m → df p1 q1 k1 n = df p2 q2 k2 n) : ∀ n : Nat, n ≤ m → tf p1 q1 k1 n = tf p2 q2 k2 n
  | 0, _ => by rw [show ((0 : Nat) : Int) = 0 from rfl, tf_zero r1, tf_zero r2]
  | n + 1, hn => by
    have ih := tf_of_df r1 r2 m h n (by omega)
    have e := h n (by omega)
    have s1 := tf_step r1 n
    have s2 := tf_step r2 n
    unfold df at e
    rw [show ((n + 1 : Nat) : Int) = (n : Int) + 1 from rfl]
    by_cases c : tf p1 q1 k1 n < tf p1 q1 k1 (n + 1)
    · rw [decide_eq_true c] at e
      have c2 := of_decide_eq_true e.symm
      omega
    · rw [decide_eq_false c] at e
      have c2 := of_decide_eq_false e.symm
      omega
def sm (f : Nat → Int) : Nat → Int
  | 0 => 0
  | n + 1 => sm f n + f n
theorem sm_add (f : Nat → Int) (a : Nat) : ∀ b, sm f (a + b) = sm f a + sm (fun j => f (a + j)) b
  | 0 => by simp [sm]
  | b + 1 => by
    rw [← Nat.add_assoc]
    simp only [sm]
    rw [sm_add f a b]; omega
theorem sm_congr {f g : Nat → Int} : ∀ n, (∀ j, j < n → f j = g j) → sm f n = sm g n
  | 0, _ => rfl
  | n + 1, h => by
    simp only [sm]
    rw [sm_congr n (fun j hj => h j (by omega)), h n (by omega)]
theorem sm_cadd (f : Nat → Int) (c : Int) : ∀ n : Nat, sm (fun j => f j + c) n = sm f n + n * c
  | 0 => by simp [sm]
  | n + 1 => by
    simp only [sm]
    rw [sm_cadd f c n, show ((n + 1 : Nat) : Int) = (n : Int) + 1 from rfl, Int.add_mul]; omega
theorem bez : ∀ a b : Nat, ∃ x y : Int, x * a + y * b = Nat.gcd a b := by
  intro a b
  induction a, b using Nat.gcd.induction with
  | H0 n => exact ⟨0, 1, by simp⟩
  | H1 m n hm ih =>
    obtain ⟨x, y, e⟩ := ih
    refine ⟨y - x * (n / m : Nat), x, ?_⟩
    rw [Nat.gcd_rec, ← e]
    have h : ((n % m : Nat) : Int) = n - m * (n / m : Nat) := by
      have := Nat.div_add_mod n m
      have h2 : ((m * (n / m) + n % m : Nat) : Int) = (n : Int) := by rw [this]
      rw [Int.natCast_add, Int.natCast_mul] at h2
      omega
    rw [h, Int.sub_mul, Int.mul_sub, Int.mul_assoc x, Int.mul_comm ((n / m : Nat) : Int) m]; omega
theorem hits (hp : 0 ≤ p) (hq : 1 ≤ q) (pq : Int.gcd p q = 1) (k : Int) : ∃ n : Nat, (n : Int) < q ∧ ∃ m : Int, n * p + k = m * q := by
  obtain ⟨x, y, e⟩ := bez p.toNat q.toNat
  have e1 : (p.toNat : Int) = p := by omega
  have e2 : (q.toNat : Int) = q := by omega
  have e3 : Nat.gcd p.toNat q.toNat = 1 := by
    have : Int.gcd (p.toNat : Int) (q.toNat : Int) = 1 := by rw [e1, e2]; exact pq
    exact this
  rw [e1, e2, e3] at e
  have n0 := Int.emod_nonneg (-k * x) (show q ≠ 0 by omega)
  have n1 := Int.emod_lt_of_pos (-k * x) (show 0 < q by omega)
  refine ⟨((-k * x) % q).toNat, by omega, -((-k * x) / q) * p + k * y, ?_⟩
  have e4 : ((((-k * x) % q).toNat : Nat) : Int) = (-k * x) % q := by omega
  have e5 : (-k * x) % q = -k * x - q * ((-k * x) / q) := by
    have := Int.mul_ediv_add_emod (-k * x) q
    omega
  rw [e4, e5]
  generalize (-k * x) / q = z
  have e6 : k * (x * p) + k * (y * q) = k := by rw [← Int.mul_add, e]; simp
  rw [Int.sub_mul, Int.neg_mul, Int.neg_mul, Int.mul_assoc, Int.add_mul, Int.neg_mul, Int.neg_mul, Int.mul_assoc k y, Int.mul_assoc q, Int.mul_assoc z, Int.mul_comm p q, Int.mul_left_comm z]
  omega
theorem kk_of (r1 : IsForm p q k1) (r2 : IsForm p q k2) (h : ∀ n : Nat, (n : Int) < q → tf p q k1 n = tf p q k2 n) : ¬ k1 < k2 := fun hlt => by
  have hq := r1.q1
  obtain ⟨n, hn, m, e⟩ := hits r1.p0 r1.q1 r1.pq k2
  have := h n hn
  unfold tf at this
  rw [e, Int.mul_ediv_cancel _ (by omega)] at this
  have h2 : n * p + k1 < m * q := by omega
  have h3 := Int.ediv_lt_of_lt_mul (by omega) h2
  omega
theorem form_one (r1 : IsForm p1 q1 k1) (r2 : IsForm p2 q2 k2) (h : ∀ n : Nat, (n : Int) < q1 + q2 → df p1 q1 k1 n = df p2 q2 k2 n) : p1 = p2 ∧ q1 = q2 ∧ k1 = k2 := by
  have h1 := r1.q1; have h2 := r2.q1
  obtain ⟨a, rfl⟩ := Int.eq_ofNat_of_zero_le (show 0 ≤ q1 by omega)
  obtain ⟨b, rfl⟩ := Int.eq_ofNat_of_zero_le (show 0 ≤ q2 by omega)
  have t := tf_of_df r1 r2 (a + b) (fun n hn => h n (by omega))
  -- the sums
  have s1 : sm (fun n => tf p1 a k1 n) (a + b) = sm (fun n => tf p1 a k1 n) a + (sm (fun n => tf p1 a k1 n) b + b * p1) := by
    rw [sm_add, ← sm_cadd]
    congr 1
    refine sm_congr _ fun j _ => ?_
    rw [← tf_turn r1, Int.natCast_add, Int.add_comm]
  have s2 : sm (fun n => tf p2 b k2 n) (b + a) = sm (fun n => tf p2 b k2 n) b + (sm (fun n => tf p2 b k2 n) a + a * p2) := by
    rw [sm_add, ← sm_cadd]
    congr 1
    refine sm_congr _ fun j _ => ?_
    rw [← tf_turn r2, Int.natCast_add, Int.add_comm]
  rw [sm_congr (f := fun n => tf p2 b k2 n) (g := fun n => tf p1 a k1 n) (b + a) (fun j hj => (t j (by omega)).symm), sm_congr (f := fun n => tf p2 b k2 n) (g := fun n => tf p1 a k1 n) b (fun j hj => (t j (by omega)).symm), sm_congr (f := fun n => tf p2 b k2 n) (g := fun n => tf p1 a k1 n) a (fun j hj => (t j (by omega)).symm), Nat.add_comm b a] at s2
  have key : (b : Int) * p1 = a * p2 := by omega
  obtain ⟨c, rfl⟩ := Int.eq_ofNat_of_zero_le r1.p0
  obtain ⟨d, rfl⟩ := Int.eq_ofNat_of_zero_le r2.p0
  have keyN : b * c = a * d := by
    have : ((b * c : Nat) : Int) = ((a * d : Nat) : Int) := by rw [Int.natCast_mul, Int.natCast_mul]; exact key
    exact Int.ofNat.inj this
  have g1 : Nat.Coprime c a := r1.pq
  have g2 : Nat.Coprime d b := r2.pq
  have ab : a = b := Nat.dvd_antisymm (g1.symm.dvd_of_dvd_mul_right ⟨d, keyN⟩) (g2.symm.dvd_of_dvd_mul_right ⟨c, keyN.symm⟩)
  subst ab
  have cd : c = d := Nat.eq_of_mul_eq_mul_left (by omega) keyN
  subst cd
  refine ⟨rfl, rfl, ?_⟩
  have t2 : ∀ n : Nat, (n : Int) < a → tf c a k1 n = tf c a k2 n := fun n hn => t n (by omega)
  have u1 := kk_of r1 r2 t2
  have u2 := kk_of r2 r1 (fun n hn => (t2 n hn).symm)
  omega
end
def lo (x y : Int) : Int × Int := (x / (Int.gcd x y : Nat), y / (Int.gcd x y : Nat))
section
variable {x y : Int}
theorem lo_g (hy : 0 < y) : 0 < (Int.gcd x y : Int) ∧ (Int.gcd x y : Int) ≤ y := by
  have g1 : 0 < Int.gcd x y := Int.gcd_pos_of_ne_zero_right _ (by omega)
  have g2 : (Int.gcd x y : Int) ≤ y := Int.le_of_dvd hy (Int.gcd_dvd_right ..)
  omega
theorem lo_x : (lo x y).1 * (Int.gcd x y : Nat) = x := Int.ediv_mul_cancel (Int.gcd_dvd_left ..)
theorem lo_y : (lo x y).2 * (Int.gcd x y : Nat) = y := Int.ediv_mul_cancel (Int.gcd_dvd_right ..)
theorem lo_y1 (hy : 0 < y) : 1 ≤ (lo x y).2 := by
  obtain ⟨g1, g2⟩ := lo_g (x := x) hy
  exact Int.le_ediv_of_mul_le g1 (by omega)
theorem lo_y2 (hy : 0 < y) : (lo x y).2 ≤ y := by
  obtain ⟨g1, g2⟩ := lo_g (x := x) hy
  refine Int.ediv_le_self _ (by omega)
theorem lo_x0 (hx : 0 ≤ x) : 0 ≤ (lo x y).1 := Int.ediv_nonneg hx (by omega)
theorem lo_le (hy : 0 < y) (h : x ≤ y) : (lo x y).1 ≤ (lo x y).2 := by
  obtain ⟨g1, g2⟩ := lo_g (x := x) hy
  exact Int.ediv_le_ediv g1 h
theorem lo_lt (hy : 0 < y) (h : x < y) : (lo x y).1 < (lo x y).2 := by
  obtain ⟨g1, g2⟩ := lo_g (x := x) hy
  have e1 := lo_x (x := x) (y := y)
  have e2 := lo_y (x := x) (y := y)
  refine Int.lt_of_mul_lt_mul_right (a := (Int.gcd x y : Int)) ?_ (by omega)
  omega
theorem lo_gcd (hy : 0 < y) : Int.gcd (lo x y).1 (lo x y).2 = 1 := by
  have g1 : 0 < Int.gcd x y := Int.gcd_pos_of_ne_zero_right _ (by omega)
  exact Int.gcd_ediv_gcd_ediv_gcd g1
theorem lo_rule {p q a b : Int} (hq : 0 < q) (hq2 : q ≤ 10000) (hp : 0 ≤ p) (hp1 : p ≤ q) (hb : 0 < b) (hb2 : b ≤ 10000) (ha : 0 ≤ a) (ha1 : a < b) : IsRule (lo p q).1 (lo p q).2 (lo a b).1 (lo a b).2 :=
  ⟨lo_y1 hq, Int.le_trans (lo_y2 hq) hq2, lo_x0 hp, lo_le hq hp1, lo_gcd hq, lo_y1 hb, Int.le_trans (lo_y2 hb) hb2, lo_x0 ha, lo_lt hb ha1, lo_gcd hb⟩
theorem lo_self (h : Int.gcd x y = 1) : lo x y = (x, y) := by
  unfold lo
  rw [h]
  simp
theorem kk_lo {q k : Int} (hq : 0 < q) : kk q (lo k q).1 (lo k q).2 = k := by
  unfold kk
  have e1 := lo_x (x := k) (y := q)
  have e2 := lo_y (x := k) (y := q)
  have y1 := lo_y1 (x := k) hq
  generalize (lo k q).1 = u at *
  generalize (lo k q).2 = v at *
  generalize ((Int.gcd k q : Nat) : Int) = g at *
  rw [← e2, show v * g * u = u * g * v by rw [Int.mul_comm v g, Int.mul_comm u g, Int.mul_assoc, Int.mul_assoc, Int.mul_comm v u], Int.mul_ediv_cancel _ (by omega), e1]
end
end Q
namespace Q
open PySem L2
section
variable {n : Nat} {S : Store}
theorem blsOf_true (ds : List D) : blsOf (ds.map fun _ => D.bl true) = some (ds.map fun _ => true) := by
  induction ds with
  | nil => rfl
  | cons d ds ih => simp only [List.map_cons, blsOf, ih]; rfl
theorem all_true (ds : List D) : (ds.map fun _ => true).all id = true := by
  induction ds with
  | nil => rfl
  | cons d ds ih => simp only [List.map_cons, List.all_cons, ih]; rfl
theorem mem_zip {ds : List D} {z : D} (h : z ∈ List.zipWith (fun d e => D.tup [d, e]) ds ds) : ∃ d ∈ ds, z = .tup [d, d] := by
  induction ds with
  | nil => cases h
  | cons d ds ih =>
    rw [List.zipWith_cons_cons] at h
    cases h with
    | head => exact ⟨d, List.mem_cons_self, rfl⟩
    | tail _ h => obtain ⟨e, h1, h2⟩ := ih h; exact ⟨e, List.mem_cons_of_mem _ h1, h2⟩
@[simp] theorem oPow_4 : oPow (.int 10) (.int 4) S = some (.int 10000, S) := (oPow_10 (n := 4)).trans (by simp)
@[simp] theorem oPow_9 : oPow (.int 10) (.int 9) S = some (.int 1000000000, S) := (oPow_10 (n := 9)).trans (by simp)
@[simp] theorem oPow_12 : oPow (.int 10) (.int 12) S = some (.int 1000000000000, S) := (oPow_10 (n := 12)).trans (by simp)
@[simp] theorem oPow_18 : oPow (.int 10) (.int 18) S = some (.int 1000000000000000000, S) := (oPow_10 (n := 18)).trans (by simp)
theorem c_anyi {k : Nat} (H : Hd k S) (vs : List Int) (h0 : 0 < vs.length) (h1 : vs.length ≤ 1000) (P : Int → Prop) (hP : ∀ v ∈ vs, P v) :
    ∃ v S', callN Lib (n + 2) 91 [.ptr k, .lst (vs.map .int)] S = .ok (.int v) S' ∧ Hd k S' ∧ Upd k S S' ∧ P v := by
  obtain ⟨d, S', e, H', U, m⟩ := c_any (n := n) H (vs.map .int) (by simpa using h0) (by rw [List.length_map]; omega)
  obtain ⟨v, hv, rfl⟩ := List.mem_map.mp m
  exact ⟨v, S', e, H', U, hP v hv⟩
end
end Q
namespace Q
open PySem L2
section
variable {n : Nat} {S : Store}
theorem lc_is {c : CallT} {s : Sl} {ds : List D} (h3 : 3 < s.length) (h : ∀ d ∈ ds, c 92 [d, d] S = .ok (.bl true) S) (hl : ds.length ≤ 1000) :
    lcL (.tp [.nm 2, .nm 3]) (eC (.bl true)) (eCall c 92 [eV 2, eV 3]) s (List.zipWith (fun d e => D.tup [d, e]) ds ds) [] S = .ok (.lst ((List.zipWith (fun d e => D.tup [d, e]) ds ds).map fun _ => .bl true)) S := by
  rw [lc_mapP (fun _ => .bl true)]
  · rfl
  · intro z hz
    obtain ⟨d, hd, rfl⟩ := mem_zip hz
    refine ⟨(s.set 2 (some d)).set 3 (some d), by simp, rfl, ?_⟩
    have h2 : 2 < s.length := by omega
    simp [h2, h3, h d hd]
  · rw [PySem.sizeLine_eq, List.length_zipWith]
    simp
    omega
theorem c_is_int (i : Int) : callN Lib (n + 1) 92 [.int i, .int i] S = .ok (.bl true) S := by
  rw [callN_eq (d := f_law_is) rfl]
  refine run_keep rfl ?_
  simp [b_law_is, oIsi, Ty.of, Ty.eqb]
theorem c_is_non : callN Lib (n + 1) 92 [.non, .non] S = .ok (.bl true) S := by
  rw [callN_eq (d := f_law_is) rfl]
  refine run_keep rfl ?_
  simp [b_law_is]
theorem c_is_bl (x : Bool) : callN Lib (n + 1) 92 [.bl x, .bl x] S = .ok (.bl true) S := by
  rw [callN_eq (d := f_law_is) rfl]
  refine run_keep rfl ?_
  simp [b_law_is, oIsi, Ty.of, Ty.eqb]
theorem c_is_str (x : Str) : callN Lib (n + 1) 92 [.str x, .str x] S = .ok (.bl true) S := by
  rw [callN_eq (d := f_law_is) rfl]
  refine run_keep rfl ?_
  simp [b_law_is, oIsi, Ty.of, Ty.eqb]
theorem c_is_tup (ds : List D) (h : ∀ d ∈ ds, callN Lib n 92 [d, d] S = .ok (.bl true) S) (hl : ds.length ≤ 1000) : callN Lib (n + 1) 92 [.tup ds, .tup ds] S = .ok (.bl true) S := by
  rw [callN_eq (d := f_law_is) rfl]
  generalize hc : callN Lib n = c at h ⊢
  refine run_keep rfl ?_
  have l := fun s (h3 : 3 < s.length) => lc_is (c := c) (s := s) (S := S) h3 h hl
  generalize he : List.zipWith (fun d e => D.tup [d, e]) ds ds = z at l
  have iz : iZip [.tup ds, .tup ds] = some z := by rw [← he]; rfl
  simp [b_law_is, w_law_is_0, oIsi, Ty.of, Ty.eqb, iz, l, oAll, blsOf_true, all_true]
theorem c_is_lst (ds : List D) (h : ∀ d ∈ ds, callN Lib n 92 [d, d] S = .ok (.bl true) S) (hl : ds.length ≤ 1000) : callN Lib (n + 1) 92 [.lst ds, .lst ds] S = .ok (.bl true) S := by
  rw [callN_eq (d := f_law_is) rfl]
  generalize hc : callN Lib n = c at h ⊢
  refine run_keep rfl ?_
  have l := fun s (h3 : 3 < s.length) => lc_is (c := c) (s := s) (S := S) h3 h hl
  generalize he : List.zipWith (fun d e => D.tup [d, e]) ds ds = z at l
  have iz : iZip [.lst ds, .lst ds] = some z := by rw [← he]; rfl
  simp [b_law_is, w_law_is_0, oIsi, Ty.of, Ty.eqb, iz, l, oAll, blsOf_true, all_true]
theorem is_ints (vs : List Int) (hl : vs.length ≤ 1000) : callN Lib (n + 2) 92 [.lst (vs.map .int), .lst (vs.map .int)] S = .ok (.bl true) S :=
  c_is_lst _ (fun d hd => by
    obtain ⟨i, _, rfl⟩ := List.mem_map.mp hd
    exact c_is_int i) (by simpa using hl)
theorem lgcd_turns (c : CallT) : ∀ (m : Nat) (x y : Nat), y ≤ m → ∃ k, k ≤ m + 1 ∧ whL (e2 oGt (eV 1) (eC (.int 0))) (tSet (.tp [.nm 0, .nm 1]) (eTup [eV 1, e2 oMod (eN oInt [eV 0]) (eV 1)])) k [some (.int x), some (.int y)] S = some (.nx [some (.int (Nat.gcd x y : Nat)), some (.int 0)], S) := by
  intro m
  induction m with
  | zero =>
    intro x y hy
    obtain rfl : y = 0 := by omega
    refine ⟨1, by omega, ?_⟩
    simp [whL]
  | succ m ih =>
    intro x y hy
    by_cases h0 : y = 0
    · subst h0
      refine ⟨1, by omega, ?_⟩
      simp [whL]
    · have hlt : x % y < y := Nat.mod_lt _ (by omega)
      obtain ⟨k, hk, e⟩ := ih y (x % y) (by omega)
      refine ⟨k + 1, by omega, ?_⟩
      have hp : (0 : Int) < (y : Int) := by omega
      unfold whL
      simp [hp, oMod_pos hp]
      have e2 : ((x : Int) % (y : Int)) = ((x % y : Nat) : Int) := by simp
      rw [e2, e, Nat.gcd_comm y (x % y), ← Nat.gcd_rec y x, Nat.gcd_comm y x]
      have h1 : 0 < y := by omega
      simp [h1]
theorem c_lgcd (x y : Int) (hy : y.natAbs < 2 ^ 59) : callN Lib (n + 1) 109 [.int x, .int y] S = .ok (.int (Int.gcd x y : Nat)) S := by
  rw [callN_eq (d := f_law_gcd) rfl]
  refine run_keep rfl ?_
  have ex : (if x < 0 then -x else x) = ((x.natAbs : Nat) : Int) := by split <;> omega
  have ey : (if y < 0 then -y else y) = ((y.natAbs : Nat) : Int) := by split <;> omega
  obtain ⟨k, hk, e⟩ := lgcd_turns (S := S) (callN Lib n) y.natAbs x.natAbs y.natAbs (Nat.le_refl _)
  have e2 := while_of e (by show k ≤ 2 ^ 60; omega)
  simp [b_law_gcd, w_law_gcd_0, ex, ey, e2]
  rfl
theorem b_lfrac_ok (c : CallT) (x y : Int) (hy : 0 < y) (hy2 : y < 1000000000) (h : c 109 [.int x, .int y] S = .ok (.int (Int.gcd x y : Nat)) S) : b_law_frac c [some (.int x), some (.int y), none] S = some (.ret (.tup [.int (lo x y).1, .int (lo x y).2]), S) := by
  obtain ⟨g1, g2⟩ := lo_g (x := x) hy
  have d := fun (i : Int) (S : Store) => oDiv_62 (S := S) (i := i) (j := (Int.gcd x y : Nat)) g1 (by omega)
  have hn : ¬ y < 0 := by omega
  unfold lo
  simp [b_law_frac, hn, h, d]
theorem c_lfrac (x y : Int) (hy : 0 < y) (hy2 : y < 1000000000) : callN Lib (n + 2) 110 [.int x, .int y] S = .ok (.tup [.int (lo x y).1, .int (lo x y).2]) S := by
  rw [callN_eq (d := f_law_frac) rfl]
  exact run_keep rfl (b_lfrac_ok _ x y hy hy2 (c_lgcd x y (by omega)))
theorem c_luntil {p q a b : Int} (r : IsRule p q a b) (k : Int) : callN Lib (n + 1) 111 [rul p q a b, .int k] S = .ok (.int (tot p q a b k)) S := by
  rw [callN_eq (d := f_law_until) rfl]
  generalize callN Lib n = c
  refine run_keep rfl ?_
  have h := r.q2; have h2 := r.p1; have h3 := r.b2; have h4 := r.a1; have h5 := r.p0; have h6 := r.a0; have h7 := r.q1; have h8 := r.b1
  have m1 := fun (i : Int) (S : Store) => oMul_r (S := S) (i := i) (j := p) (by omega) (by omega)
  have m2 := fun (i : Int) (S : Store) => oMul_r (S := S) (i := i) (j := b) (by omega) (by omega)
  have m3 := fun (i : Int) (S : Store) => oMul_r (S := S) (i := i) (j := q) (by omega) (by omega)
  have b1 : 0 < q * b := Int.mul_pos (by omega) (by omega)
  have b2 : q * b ≤ 10000 * 10000 := Int.mul_le_mul h h3 (by omega) (by omega)
  have d1 := fun (i : Int) (S : Store) => oDiv_62 (S := S) (i := i) b1 (by omega)
  simp [b_law_until, rul, m1, m2, m3, d1]
  rfl
end
end Q
namespace Q
open PySem L2
section
variable {n : Nat} {S : Store}
def notInt : D → Bool
  | .int _ => false
  | .ptr _ => false
  | .obj _ => false
  | .src _ => false
  | .fn _ => false
  | .ins _ _ => false
  | .exc _ _ => false
  | .lam => false
  | _ => true
theorem c_not_integer (d : D) (h : notInt d = true) : callN Lib (n + 1) 1 [d] S = .ok (.bl false) S := by
  rw [callN_eq (d := f_is_integer) rfl]
  refine run_keep rfl ?_
  cases d <;> first | (cases h; done) | simp [b_is_integer, oIsi, Ty.of, Ty.eqb]
theorem c_not_within (d : D) (l h : Int) (hd : notInt d = true) : callN Lib (n + 2) 2 [d, .int l, .int h] S = .ok (.bl false) S := by
  rw [callN_eq (d := f_is_within) rfl]
  refine run_keep rfl ?_
  simp [b_is_within, c_not_integer d hd]
theorem c_not_tuple (d : D) (k : Int) (hd : notInt d = true) (ht : ∀ ds, d ≠ .tup ds) : callN Lib (n + 1) 3 [d, .int k] S = .ok (.bl false) S := by
  rw [callN_eq (d := f_is_tuple_of) rfl]
  refine run_keep rfl ?_
  cases d <;> first | (cases hd; done) | exact absurd rfl (ht _) | simp [b_is_tuple_of, oIsi, Ty.of, Ty.eqb]
theorem c_int_tuple (i k : Int) : callN Lib (n + 1) 3 [.int i, .int k] S = .ok (.bl false) S := by
  rw [callN_eq (d := f_is_tuple_of) rfl]
  refine run_keep rfl ?_
  simp [b_is_tuple_of, oIsi, Ty.of, Ty.eqb]
end
end Q
namespace Q
open PySem L2
def Store.dead (S : Store) : Store := ⟨S.L ++ [none], S.O⟩
section
variable {S : Store} {k j : Nat} {xs ys : List D}
@[simp] theorem new_len' : (S.new xs).L.length = S.L.length + 1 := by unfold Store.new; simp
@[simp] theorem dead_len : S.dead.L.length = S.L.length + 1 := by unfold Store.dead; simp
@[simp] theorem new_get_at (h : j = S.L.length) : (S.new xs).get j = some xs := by subst h; exact get_new_self
@[simp] theorem new_put_at (h : j = S.L.length) : (S.new xs).put j ys = S.new ys := by subst h; unfold Store.new Store.put; simp
@[simp] theorem new_del_at (h : j = S.L.length) : (S.new xs).del j = S.dead := by subst h; unfold Store.new Store.del Store.dead; simp
theorem new_put_lt (h : k < S.L.length) : (S.new xs).put k ys = (S.put k ys).new xs := by unfold Store.new Store.put; simp [List.set_append_left _ _ h]
theorem dead_put_lt (h : k < S.L.length) : S.dead.put k ys = (S.put k ys).dead := by unfold Store.dead Store.put; simp [List.set_append_left _ _ h]
theorem dead_get_lt (h : k < S.L.length) : S.dead.get k = S.get k := by unfold Store.dead Store.get; simp [List.getElem?_append_left h]
@[simp] theorem dead_cut (h : j = S.L.length) : S.dead.cut j = S := by subst h; unfold Store.dead Store.cut; simp
@[simp] theorem new_cut (h : j = S.L.length) : (S.new xs).cut j = S := by subst h; unfold Store.new Store.cut; simp
@[simp] theorem cut_all (h : j = S.L.length) : S.cut j = S := by subst h; unfold Store.cut; simp
end
def Grow (k : Nat) (S S' : Store) : Prop := ∃ xs T, S' = ⟨S.L.set k (some xs) ++ T, S.O⟩
theorem Upd.grow {k : Nat} {S S' : Store} (h : Upd k S S') : Grow k S S' := by
  obtain ⟨xs, rfl⟩ := h
  exact ⟨xs, [], by unfold Store.put; simp⟩
theorem Grow.dead {k : Nat} {S S' : Store} (h : Grow k S S') : Grow k S S'.dead := by
  obtain ⟨xs, T, rfl⟩ := h
  exact ⟨xs, T ++ [none], by unfold Store.dead; simp⟩
theorem Grow.new {k : Nat} {S S' : Store} (h : Grow k S S') (ys : List D) : Grow k S (S'.new ys) := by
  obtain ⟨xs, T, rfl⟩ := h
  exact ⟨xs, T ++ [some ys], by unfold Store.new; simp⟩
theorem Hd.lt' {k : Nat} {S : Store} (h : Hd k S) : k < S.L.length := h.elim fun _ z => get_lt z.1
theorem Grow.trans {k : Nat} {S S1 S2 : Store} (h0 : Hd k S) (a : Grow k S S1) (b : Grow k S1 S2) : Grow k S S2 := by
  obtain ⟨xs, T, rfl⟩ := a
  obtain ⟨ys, U, rfl⟩ := b
  refine ⟨ys, T ++ U, ?_⟩
  have := h0.lt'
  simp [List.set_append_left _ _ (show k < (S.L.set k (some xs)).length by simpa using this)]
theorem Grow.refl {k : Nat} {S : Store} (h : Hd k S) : Grow k S S := (Upd.refl h).grow
theorem Hd.dead {k : Nat} {S : Store} (h : Hd k S) : Hd k S.dead := by
  obtain ⟨x, g, ok⟩ := h
  exact ⟨x, by rw [dead_get_lt (get_lt g)]; exact g, ok⟩
theorem Hd.new' {k : Nat} {S : Store} (h : Hd k S) (xs : List D) : Hd k (S.new xs) := by
  obtain ⟨x, g, ok⟩ := h
  exact ⟨x, by rw [get_new_lt (get_lt g)]; exact g, ok⟩
theorem Grow.cut {k : Nat} {S S' : Store} (h0 : Hd k S) (h : Hd k S') (g : Grow k S S') : Hd k (S'.cut S.L.length) ∧ Upd k S (S'.cut S.L.length) := by
  obtain ⟨xs, T, rfl⟩ := g
  have hl := h0.lt'
  have e : (⟨S.L.set k (some xs) ++ T, S.O⟩ : Store).cut S.L.length = S.put k xs := by
    unfold Store.cut Store.put
    simp [List.take_append_of_le_length]
  rw [e]
  refine ⟨?_, ⟨xs, rfl⟩⟩
  obtain ⟨x, g, ok⟩ := h
  refine ⟨x, ?_, ok⟩
  have e2 : (S.put k xs).get k = some xs := by
    obtain ⟨y, gy, _⟩ := h0
    exact get_put_self gy
  rw [e2]
  unfold Store.get at g
  simp only at g
  rw [List.getElem?_append_left (by simpa using hl), List.getElem?_set_self hl] at g
  exact g
theorem Upd.len' {k : Nat} {S S' : Store} (h : Upd k S S') : S'.L.length = S.L.length := by
  obtain ⟨xs, rfl⟩ := h
  exact put_len
theorem Upd.other' {k j : Nat} {S S' : Store} (h : Upd k S S') (hj : j ≠ k) : S'.get j = S.get j := by
  obtain ⟨xs, rfl⟩ := h
  exact get_put_ne hj
theorem Upd.new_out {k : Nat} {S S' : Store} {xs : List D} (h0 : Hd k S) (h : Upd k (S.new xs) S') (H : Hd k S') : ∃ S1, S' = S1.new xs ∧ Hd k S1 ∧ Upd k S S1 := by
  obtain ⟨ys, rfl⟩ := h
  rw [new_put_lt h0.lt'] at H ⊢
  refine ⟨_, rfl, ?_, ⟨ys, rfl⟩⟩
  obtain ⟨x, g, ok⟩ := H
  rw [get_new_lt (by rw [put_len]; exact h0.lt')] at g
  exact ⟨x, g, ok⟩
@[simp] theorem append_at {S : Store} {j : Nat} {xs : List D} {d : D} (h : j = S.L.length) (hl : xs.length ≤ 100000) (hf : d.flat = true) : oAppend [.ptr j, d] (S.new xs) = some (.non, S.new (xs ++ [d])) := by
  have e : lineOk xs.length = true := by unfold lineOk; rw [decide_eq_true_iff, PySem.sizeLine_eq]; omega
  simp [oAppend, new_get_at h, e, hf, new_put_at h]
@[simp] theorem isLst_at {S : Store} {j : Nat} {xs : List D} (h : j = S.L.length) : isLstD (.ptr j) (S.new xs) = true := by simp [isLstD, itemsL, new_get_at h]
theorem frz_at {S : Store} {j i : Nat} {xs : List D} {s : Sl} (hs : s[i]? = some (some (.ptr j))) (h : j = S.L.length) : frzS i s (S.new xs) = some (s.set i (some (.lst xs)), S.dead) := by
  unfold frzS
  rw [hs]
  simp only [new_get_at h, new_del_at h]
def plainD : Nat → D → Bool
  | _, .non => true
  | _, .bl _ => true
  | _, .int _ => true
  | _, .str _ => true
  | n + 1, .tup ds => decide (ds.length ≤ 1000) && ds.all (plainD n)
  | n + 1, .lst ds => decide (ds.length ≤ 1000) && ds.all (plainD n)
  | _, _ => false
theorem is_refl : ∀ (n : Nat) (d : D), plainD n d = true → ∀ (m : Nat) (S : Store), callN Lib (m + n + 1) 92 [d, d] S = .ok (.bl true) S
  | _, .non, _, m, S => c_is_non
  | _, .bl x, _, m, S => c_is_bl x
  | _, .int x, _, m, S => c_is_int x
  | _, .str x, _, m, S => c_is_str x
  | 0, .tup ds, h, m, S => by simp [plainD] at h
  | 0, .lst ds, h, m, S => by simp [plainD] at h
  | n + 1, .tup ds, h, m, S => by
    simp only [plainD, Bool.and_eq_true, decide_eq_true_eq, List.all_eq_true] at h
    exact c_is_tup _ (fun d hd => is_refl n d (h.2 d hd) m S) h.1
  | n + 1, .lst ds, h, m, S => by
    simp only [plainD, Bool.and_eq_true, decide_eq_true_eq, List.all_eq_true] at h
    exact c_is_lst _ (fun d hd => is_refl n d (h.2 d hd) m S) h.1
  | n, .ins _ _, h, m, S => by cases n <;> simp [plainD] at h
  | n, .dct _, h, m, S => by cases n <;> simp [plainD] at h
  | n, .ptr _, h, m, S => by cases n <;> simp [plainD] at h
  | n, .obj _, h, m, S => by cases n <;> simp [plainD] at h
  | n, .src _, h, m, S => by cases n <;> simp [plainD] at h
  | n, .fn _, h, m, S => by cases n <;> simp [plainD] at h
  | n, .exc _ _, h, m, S => by cases n <;> simp [plainD] at h
  | n, .odc, h, m, S => by cases n <;> simp [plainD] at h
  | n, .lam, h, m, S => by cases n <;> simp [plainD] at h
theorem for_pre {p : Pat} {b : TSt} (F : List D → Store) (st : Option D → Sl) : ∀ (ds pre : List D), (∀ d ∈ ds, ∀ o, p.put d (st o) = some (st (some d))) → (∀ q d r, ds = q ++ d :: r → b (st (some d)) (F (pre ++ q)) = some (.nx (st (some d)), F (pre ++ (q ++ [d])))) →
    ∀ o, forL p b ds (st o) (F pre) = some (.nx (st (match ds.getLast? with | some d => some d | none => o)), F (pre ++ ds))
  | [], pre, _, _, o => by simp [forL]
  | d :: ds, pre, hp, hb, o => by
    unfold forL
    simp only [hp d List.mem_cons_self o]
    have e := hb [] d ds rfl
    simp only [List.append_nil, List.nil_append] at e
    simp only [e]
    rw [for_pre F st ds (pre ++ [d]) (fun x hx => hp x (List.mem_cons_of_mem _ hx)) (fun q x r hq => by
      have := hb (d :: q) x r (by rw [hq]; rfl)
      simpa using this) (some d)]
    cases ds with
    | nil => simp
    | cons e es =>
      simp only [List.getLast?_cons_cons]
      cases h : (e :: es).getLast? with
      | none => simp at h
      | some x => simp
theorem for_invU {p : Pat} {b : TSt} (I : Sl → Store → Prop) : ∀ (ds : List D) (s : Sl) (S : Store), I s S → (∀ d ∈ ds, ∀ s S, I s S → ∃ s1, p.put d s = some s1 ∧ ∃ s2 S2, b s1 S = some (.nx s2, S2) ∧ I s2 S2) → ∃ s' S', forL p b ds s S = some (.nx s', S') ∧ I s' S'
  | [], s, S, h, _ => ⟨s, S, rfl, h⟩
  | d :: ds, s, S, h, k => by
    obtain ⟨s1, h1, s2, S2, h2, h3⟩ := k d List.mem_cons_self s S h
    obtain ⟨s', S', e, h4⟩ := for_invU I ds s2 S2 h3 fun d hd => k d (List.mem_cons_of_mem _ hd)
    refine ⟨s', S', ?_, h4⟩
    unfold forL
    simp only [h1, h2]
    exact e
def tellR (w : Nat → Option D) : Res D → Res D
  | .ok d S => if d.flat then .ok d S else .err
  | .ex e S => if flats e.args then match w e.cls with
    | some d => .ok d S
    | none => .err
    else .err
  | .err => .err
def tellS (w : Nat → Option D) : Res D → RS
  | .ok d S => some (.ret d, S)
  | .ex e S => match w e.cls with
    | some d => some (.ret d, S)
    | none => none
  | .err => none
@[simp] theorem tellR_ok {w : Nat → Option D} {d : D} {S : Store} : tellR w (.ok d S) = if d.flat then .ok d S else .err := (rfl)
@[simp] theorem tellR_ex {w : Nat → Option D} {e : Ex} {S : Store} : tellR w (.ex e S) = if flats e.args then match w e.cls with | some d => .ok d S | none => .err else .err := (rfl)
theorem eTold_tell {n : Nat} {b : (Store → Res D) → TSt} {w : Nat → Option D} (hb : ∀ th S, b th (some (.fn 0) :: List.replicate n none) S = tellS w (th S)) (hw : ∀ e d, w e = some d → d.flat = true) (te : TE) (s : Sl) (S : Store) : eTold true n b te s S = tellR w (te s S) := by
  unfold eTold
  rw [if_pos rfl, hb]
  cases h : te s S with
  | ok d S' =>
    simp only [flatR_ok, tellR_ok]
    by_cases hf : d.flat = true
    · simp [hf, tellS]
    · simp [hf, tellS]
  | ex e S' =>
    simp only [flatR_ex, tellR_ex]
    by_cases hf : flats e.args = true
    · simp only [hf, if_true, tellS]
      cases h2 : w e.cls with
      | none => rfl
      | some d => simp [hw _ _ h2]
    · simp [hf, tellS]
  | err => rfl
theorem chs_len (z : Str) : (chs z).length = z.length := by simp [chs, Str.length]
theorem wrd_chs' (l : List Bool) : chs (wrd l) = l.map fun b => .str (sgn b) := by
  unfold chs wrd
  rw [List.toList_toArray, List.map_map]
  exact List.map_congr_left fun b _ => by rw [sgn_wrd]; rfl
end Q
namespace Q
open PySem L2
def isBit (c : Nat) : Bool := decide (c = 48) || decide (c = 49)
def sgnsB (z : Str) : Bool := decide (0 < z.length) && z.cps.toList.all isBit
def rowB (z : Str) : Bool := sgnsB z && decide (z.length ≤ 500)
def thingOk : D → Bool
  | .non => true
  | .bl _ => true
  | .int _ => true
  | .str z => decide (z.length ≤ 1000000)
  | .tup _ => true
  | .lst _ => true
  | .dct _ => true
  | _ => false
def rowD : D → Bool
  | .str z => rowB z
  | _ => false
theorem str_one (c d : Nat) : ((⟨#[c]⟩ : Str) == ⟨#[d]⟩) = decide (c = d) := by
  by_cases h : c = d
  · subst h; simp
  · rw [decide_eq_false h]
    apply beq_eq_false_iff_ne.mpr
    intro z
    cases z
    exact h rfl
theorem s0 : ("0" : Str) = ⟨#[48]⟩ := by decide +kernel
theorem s1 : ("1" : Str) = ⟨#[49]⟩ := by decide +kernel
theorem s01 : ("01" : Str) = ⟨#[48, 49]⟩ := by decide +kernel
theorem in_two {S : Store} (c : Nat) : oIn (.str ⟨#[c]⟩) (.tup [.str "0", .str "1"]) S = some (.bl (isBit c), S) := by
  simp only [oIn, inD, itemsLT, flatD, List.all_cons, List.all_nil, Bool.and_true, if_true, List.any_cons, List.any_nil, Bool.or_false, eqF, s0, s1, str_one, isBit]
  congr 2
  by_cases h1 : 48 = c
  · subst h1; rfl
  · by_cases h2 : 49 = c
    · subst h2; rfl
    · rw [decide_eq_false h1, decide_eq_false h2, decide_eq_false (Ne.symm h1), decide_eq_false (Ne.symm h2)]
theorem in_01 {S : Store} (c : Nat) : oIn (.str ⟨#[c]⟩) (.str "01") S = some (.bl (isBit c), S) := by
  have h : signOf (.str ⟨#[c]⟩) = some c := rfl
  simp only [oIn, inD, h, s01]
  congr 2
  unfold isBit
  simp
theorem blsOf_map {α : Type} (f : α → Bool) : ∀ l : List α, blsOf (l.map fun x => D.bl (f x)) = some (l.map f)
  | [] => rfl
  | a :: l => by simp [blsOf, blsOf_map f l]
theorem all_id {α : Type} (f : α → Bool) (l : List α) : (l.map f).all id = l.all f := by simp [List.all_map]
theorem lc_chs {i : Nat} {t e : TE} {s : Sl} {S : Store} {z : Str} (f : Nat → D) (h : ∀ c ∈ z.cps.toList, t (s.set i (some (.str ⟨#[c]⟩))) S = .ok (.bl true) S ∧ e (s.set i (some (.str ⟨#[c]⟩))) S = .ok (f c) S) (hz : z.length ≤ 1000000) :
    lcL (.nm i) t e s (z.cps.toList.map fun c => .str ⟨#[c]⟩) [] S = .ok (.lst (z.cps.toList.map f)) S := by
  rw [lc_map (fun d => match signOf d with | some c => f c | none => d)]
  · rw [List.nil_append, List.map_map]
    rfl
  · intro d hd
    obtain ⟨c, hc, rfl⟩ := List.mem_map.mp hd
    exact h c hc
  · rw [PySem.sizeLine_eq]
    simp only [List.length_map, Array.length_toList, List.length_nil]
    unfold Str.length at hz
    omega
section
variable {n : Nat} {S : Store}
theorem oLen_str {z : Str} (h : z.length ≤ 1000000) : oLen [.str z] S = some (.int z.length, S) := by
  have : z.length ≤ sizeLine := by rw [PySem.sizeLine_eq]; omega
  simp [oLen, this]
theorem wrd_all (l : List Bool) : (wrd l).cps.toList.all isBit = true := by
  simp [wrd, isBit, bit]
theorem row_wrd {l : List Bool} (h0 : 0 < l.length) (h1 : l.length ≤ 500) : rowB (wrd l) = true := by
  unfold rowB sgnsB
  rw [wrd_all, wrd_len]
  simp [h0, h1]
theorem thing_wrd {l : List Bool} (h1 : l.length ≤ 1000000) : thingOk (.str (wrd l)) = true := by simp [thingOk, wrd_len, h1]
theorem oLen_wrd {l : List Bool} (h : l.length ≤ 1000000) : oLen [.str (wrd l)] S = some (.int l.length, S) := by rw [oLen_str (by rw [wrd_len]; exact h), wrd_len]
def cnt (l : List Bool) (i : Nat) : Int := ((l.take i).count true : Nat)
def cnts (l : List Bool) : List Int := (List.range (l.length + 1)).map (cnt l)
theorem cnts_nil : cnts [] = [0] := rfl
theorem cnts_len (l : List Bool) : (cnts l).length = l.length + 1 := by simp [cnts]
theorem cnt_app (l : List Bool) (b : Bool) {i : Nat} (h : i ≤ l.length) : cnt (l ++ [b]) i = cnt l i := by
  unfold cnt
  rw [List.take_append_of_le_length h]
theorem cnts_app (l : List Bool) (b : Bool) : cnts (l ++ [b]) = cnts l ++ [cnt l l.length + if b then 1 else 0] := by
  unfold cnts
  rw [List.length_append, List.length_singleton, List.range_succ, List.map_append]
  congr 1
  · refine List.map_congr_left fun i hi => cnt_app l b ?_
    have := List.mem_range.mp hi
    omega
  · simp only [List.map_cons, List.map_nil]
    congr 1
    unfold cnt
    rw [List.take_of_length_le (by simp), List.take_of_length_le (by simp), List.count_append]
    cases b <;> simp
theorem cnts_last (l : List Bool) : (cnts l)[l.length]? = some (cnt l l.length) := by simp [cnts]
theorem ixN_last (m : Nat) : ixN (m + 1) (-1) = some m := by
  unfold ixN
  have h1 : (-1 : Int) < 0 := by omega
  have e : (-1 + ((m + 1 : Nat) : Int)).toNat = m := by omega
  simp [h1]
  first
    | omega
    | exact ⟨by omega, by omega⟩
theorem atI_last {α : Type} {xs : List α} {x : α} {m : Nat} (hl : xs.length = m + 1) (h : xs[m]? = some x) : atI xs (-1) = some x := by
  unfold atI
  rw [hl, ixN_last]
  exact h
end
end Q
namespace Q
open PySem L2
def oneD : D → Bool
  | .str z => decide (z = "1")
  | _ => false
@[simp] theorem sgn_is1 (b : Bool) : decide (sgn b = ("1" : Str)) = b := by cases b <;> decide +kernel
@[simp] theorem sgn_is0 (b : Bool) : decide (sgn b = ("0" : Str)) = !b := by cases b <;> decide +kernel
theorem ones (l : List Bool) : (l.map fun b => D.str (sgn b)).map oneD = l := by
  rw [List.map_map]
  have : (oneD ∘ fun b => D.str (sgn b)) = id := funext fun b => sgn_is1 b
  rw [this, List.map_id]
section
variable {n k : Nat} {S : Store}
theorem ix_last {j m : Nat} {xs : List D} {d : D} (h : j = S.L.length) (hl : xs.length = m + 1) (hx : xs[m]? = some d) : oIx (.ptr j) (.int (-1)) (S.new xs) = some (d, S.new xs) := by
  simp [oIx, itemsLT, itemsL, new_get_at h, atI_last hl hx]
theorem sseq_wrd {s : Sl} {a : TE} {l : List Bool} {S1 : Store} (h : a s S = .ok (.str (wrd l)) S1) : sSeq a s S = .ok (l.map fun b => .str (sgn b)) S1 := by
  unfold sSeq
  rw [h]
  show Res.ok (chs (wrd l)) S1 = _
  rw [wrd_chs']
theorem oTup_lst (ds : List D) : oTupleOf [.lst ds] S = some (.tup ds, S) := rfl
def spotL (l : List Bool) : List Nat := (List.range l.length).filter fun i => l.getD i false
def placedL (l : List Bool) : List D := (List.range l.length).map fun (i : Nat) => .tup [.int (i : Nat), .str (sgn (l.getD i false))]
theorem enum_row (l : List Bool) : iEnum [.str (wrd l)] = some (placedL l) := by
  have e : iEnum [.str (wrd l)] = some (List.zipWith (fun d e => .tup [d, e]) ((List.range (wrd l).cps.size).map fun (i : Nat) => .int (i : Nat)) (chs (wrd l))) := rfl
  have e2 : (wrd l).cps.size = l.length := by simp [wrd]
  rw [e, wrd_chs', e2]
  congr 1
  unfold placedL
  apply List.ext_getElem
  · simp
  · intro i h1 h2
    simp at h2
    simp [h2]
theorem lc_filtR {p : Pat} {t e : TE} {s : Sl} {S : Store} (P : D → Bool) (f : D → D) : ∀ (ds acc : List D), (∀ d ∈ ds, ∃ s1, p.put d s = some s1 ∧ t s1 S = .ok (.bl (P d)) S ∧ (P d = true → e s1 S = .ok (f d) S)) → acc.length + ds.length ≤ sizeLine → lcL p t e s ds acc S = .ok (.lst (acc ++ (ds.filter P).map f)) S
  | [], acc, _, _ => by simp [lcL]
  | d :: ds, acc, h, hl => by
    obtain ⟨s1, h0, h1, h2⟩ := h d List.mem_cons_self
    simp only [List.length_cons] at hl
    have h3 : lineOk acc.length = true := by unfold lineOk; exact decide_eq_true (by omega)
    unfold lcL
    cases c : P d with
    | true =>
      simp only [h0, h1, h2 c, h3, c, if_true]
      rw [lc_filtR P f ds (acc ++ [f d]) (fun d' hd => h d' (List.mem_cons_of_mem _ hd)) (by simp; omega)]
      simp [c]
    | false =>
      simp only [h0, h1, c]
      have := lc_filtR P f ds acc (fun d' hd => h d' (List.mem_cons_of_mem _ hd)) (by omega)
      simp [c, this]
def sndOne : D → Bool
  | .tup [_, .str z] => decide (z = "1")
  | _ => false
def fstOf : D → D
  | .tup [x, _] => x
  | d => d
theorem lc_spotL {i j : Nat} (hij : i ≠ j) {t e : TE} {s : Sl} {l : List Bool} (hi : i < s.length) (hj : j < s.length) (hl : l.length ≤ 100000)
    (ht : ∀ (a : Nat) b, t ((s.set i (some (.int a))).set j (some (.str (sgn b)))) S = .ok (.bl b) S) (he : ∀ (a : Nat) b, e ((s.set i (some (.int a))).set j (some (.str (sgn b)))) S = .ok (.int a) S) :
    lcL (.tp [.nm i, .nm j]) t e s (placedL l) [] S = .ok (.lst ((spotL l).map fun (a : Nat) => .int a)) S := by
  rw [lc_filtR sndOne fstOf]
  · unfold spotL placedL
    rw [List.nil_append, List.filter_map, List.map_map]
    have e : (sndOne ∘ fun (i : Nat) => D.tup [.int (i : Nat), .str (sgn (l.getD i false))]) = fun i : Nat => l.getD i false := funext fun i => sgn_is1 _
    rw [e]
    rfl
  · intro d hd
    obtain ⟨a, _, rfl⟩ := List.mem_map.mp hd
    refine ⟨(s.set i (some (.int (a : Nat)))).set j (some (.str (sgn (l.getD a false)))), by simp, ?_, fun _ => ?_⟩
    · rw [ht]
      show Res.ok (D.bl (l.getD a false)) S = Res.ok (D.bl (decide (sgn (l.getD a false) = ("1" : Str)))) S
      rw [sgn_is1]
    · rw [he]
      rfl
  · rw [PySem.sizeLine_eq]
    simp [placedL]
    omega
theorem lc_sgns {i : Nat} {t e : TE} {s : Sl} {S : Store} {l : List Bool} (f : Bool → D) (h : ∀ b, t (s.set i (some (.str (sgn b)))) S = .ok (.bl true) S ∧ e (s.set i (some (.str (sgn b)))) S = .ok (f b) S) (hl : l.length ≤ 1000000) :
    lcL (.nm i) t e s (l.map fun b => .str (sgn b)) [] S = .ok (.lst (l.map f)) S := by
  rw [lc_map (fun d => f (oneD d))]
  · rw [List.nil_append, List.map_map]
    refine congrArg (fun z => Res.ok (D.lst z) S) (List.map_congr_left fun b _ => ?_)
    show f (oneD (.str (sgn b))) = f b
    rw [show oneD (.str (sgn b)) = b from sgn_is1 b]
  · intro d hd
    obtain ⟨b, _, rfl⟩ := List.mem_map.mp hd
    rw [show oneD (.str (sgn b)) = b from sgn_is1 b]
    exact h b
  · rw [PySem.sizeLine_eq]
    simp
    omega
theorem wrd_rev (l : List Bool) : (⟨(wrd l).cps.toList.reverse.toArray⟩ : Str) = wrd l.reverse := by
  unfold wrd
  simp
theorem oRev_wrd {l : List Bool} (h : l.length ≤ 1000000) : oRev (.str (wrd l)) S = some (.str (wrd l.reverse), S) := by
  have hz : (wrd l).length ≤ sizeLine := by rw [wrd_len, PySem.sizeLine_eq]; omega
  show (if (wrd l).length ≤ sizeLine then some (D.str ⟨(wrd l).cps.toList.reverse.toArray⟩, S) else none) = _
  rw [if_pos hz, wrd_rev]
theorem wrd_app (l m : List Bool) : wrd l ++ wrd m = wrd (l ++ m) := by
  show (⟨(wrd l).cps ++ (wrd m).cps⟩ : Str) = _
  unfold wrd
  simp
theorem oAdd_wrd {l m : List Bool} (h : l.length + m.length ≤ 1000000) : oAdd (.str (wrd l)) (.str (wrd m)) S = some (.str (wrd (l ++ m)), S) := by
  have hz : (wrd l).length + (wrd m).length ≤ sizeLine := by rw [wrd_len, wrd_len, PySem.sizeLine_eq]; omega
  show (if (wrd l).length + (wrd m).length ≤ sizeLine then some (D.str (wrd l ++ wrd m), S) else none) = _
  rw [if_pos hz, wrd_app]
theorem cutD_nat {α : Type} (xs : List α) (a b : Nat) : cutD xs (some (a : Int)) (some (b : Int)) = (xs.drop (min a xs.length)).take (min b xs.length - min a xs.length) := by
  unfold cutD
  rw [HT.sIx_nat, HT.sIx_nat]
theorem wrd_drop {l : List Bool} (i : Nat) (h : i ≤ l.length) (h2 : l.length ≤ 1000000) : oCut (.str (wrd l)) (some (i : Int)) none S = some (.str (wrd (l.drop i)), S) := by
  have hz : (wrd l).length ≤ sizeLine := by rw [wrd_len, PySem.sizeLine_eq]; omega
  have hl : (wrd l).cps.toList.length = l.length := by simp [wrd]
  unfold oCut cutD
  simp only [hz, if_true, HT.sIx_nat, HT.sIx_none, hl]
  rw [Nat.min_eq_left h, List.take_of_length_le (by simp [wrd])]
  unfold wrd
  simp [List.map_drop]
theorem wrd_take {l : List Bool} (i : Nat) (h : i ≤ l.length) (h2 : l.length ≤ 1000000) : oCut (.str (wrd l)) none (some (i : Int)) S = some (.str (wrd (l.take i)), S) := by
  have hz : (wrd l).length ≤ sizeLine := by rw [wrd_len, PySem.sizeLine_eq]; omega
  have hl : (wrd l).cps.toList.length = l.length := by simp [wrd]
  unfold oCut cutD
  simp only [hz, if_true, HT.sIx_nat, HT.sIx_none, hl]
  rw [Nat.min_eq_left h]
  unfold wrd
  simp [List.map_take]
def rot (l : List Bool) (i : Nat) : List Bool := (List.range l.length).map fun j => l.getD ((i + j) % l.length) false
theorem rot_len (l : List Bool) (i : Nat) : (rot l i).length = l.length := by simp [rot]
theorem rot_eq (l : List Bool) {i : Nat} (h : i < l.length) : l.drop i ++ l.take i = rot l i := by
  apply List.ext_getElem
  · simp [rot]; omega
  · intro j h1 h2
    simp [rot] at h2
    simp only [rot, List.getElem_map, List.getElem_range]
    by_cases hj : j < l.length - i
    · rw [List.getElem_append_left (by simpa using hj)]
      have e : (i + j) % l.length = i + j := Nat.mod_eq_of_lt (by omega)
      simp [e, show i + j < l.length by omega]
    · rw [List.getElem_append_right (by simpa using Nat.le_of_not_lt hj)]
      have e : (i + j) % l.length = i + j - l.length := by
        rw [Nat.mod_eq_sub_mod (by omega), Nat.mod_eq_of_lt (by omega)]
      simp only [e, List.getElem_take, List.length_drop]
      have e2 : j - (l.length - i) = i + j - l.length := by omega
      simp [e2, show i + j - l.length < l.length by omega]
theorem rot_rot (l : List Bool) (i j : Nat) (h : 0 < l.length) : rot (rot l i) j = rot l ((i + j) % l.length) := by
  apply List.ext_getElem
  · simp [rot]
  · intro a h1 h2
    simp [rot] at h2
    have hm : (j + a) % l.length < l.length := Nat.mod_lt _ h
    simp only [rot, List.length_map, List.length_range, List.getElem_map, List.getElem_range]
    have e : ((List.range l.length).map fun j => l.getD ((i + j) % l.length) false).getD ((j + a) % l.length) false = l.getD ((i + (j + a) % l.length) % l.length) false := by
      simp [hm]
    rw [e]
    congr 1
    rw [Nat.add_mod_mod, Nat.mod_add_mod, Nat.add_assoc]
theorem oIx_str {z : Str} {i c : Nat} (hz : z.length ≤ 1000000) (h : z.cps.toList[i]? = some c) : oIx (.str z) (.int i) S = some (.str ⟨#[c]⟩, S) := by
  have hl : z.length ≤ sizeLine := by rw [PySem.sizeLine_eq]; omega
  show (if z.length ≤ sizeLine then (match atI z.cps.toList (i : Int) with | some c => some (D.str ⟨#[c]⟩, S) | none => none) else none) = _
  rw [if_pos hl, atI_nat h]
theorem oIx_wrd {l : List Bool} {i : Nat} {b : Bool} (hl : l.length ≤ 1000000) (h : l[i]? = some b) : oIx (.str (wrd l)) (.int i) S = some (.str (sgn b), S) := by
  rw [oIx_str (i := i) (c := bit b) (by rw [wrd_len]; exact hl) (by simp [wrd, h]), sgn_wrd]
end
end Q
namespace Q
open PySem L2
def nth (p q a b k : Int) : Int := -(-(((k + 1) * b - a) * q) / (p * b)) - 1
section
variable {p q a b k : Int}
theorem tot_ge (r : IsRule p q a b) (n k : Int) : k + 1 ≤ tot p q a b n ↔ ((k + 1) * b - a) * q ≤ n * (p * b) := by
  have h1 := r.q1; have h2 := r.b1
  unfold tot
  have hb : 0 < q * b := Int.mul_pos (by omega) (by omega)
  rw [Int.le_ediv_iff_mul_le hb, Int.sub_mul, Int.mul_assoc n p b]
  have e : (k + 1) * (q * b) = (k + 1) * b * q := by rw [Int.mul_comm q b, Int.mul_assoc]
  rw [e]
  omega
theorem nth_ge (r : IsRule p q a b) (hp : 0 < p) (n k : Int) : k + 1 ≤ tot p q a b n ↔ nth p q a b k + 1 ≤ n := by
  have h2 := r.b1
  rw [tot_ge r]
  unfold nth
  have hb : 0 < p * b := Int.mul_pos hp (by omega)
  generalize ((k + 1) * b - a) * q = t
  generalize p * b = u at *
  have e : -n ≤ -t / u ↔ -n * u ≤ -t := Int.le_ediv_iff_mul_le hb
  rw [Int.neg_mul] at e
  constructor
  · intro h
    have := e.mpr (by omega)
    omega
  · intro h
    have := e.mp (by omega)
    omega
theorem tot_step (r : IsRule p q a b) (n : Int) : tot p q a b n ≤ tot p q a b (n + 1) ∧ tot p q a b (n + 1) ≤ tot p q a b n + 1 := by
  have := tf_step r.form n
  rw [tot_kk r, tot_kk r]
  exact this
theorem nth_tot (r : IsRule p q a b) (hp : 0 < p) (k : Int) : tot p q a b (nth p q a b k) = k ∧ tot p q a b (nth p q a b k + 1) = k + 1 := by
  have h1 := (nth_ge r hp (nth p q a b k + 1) k).mpr (Int.le_refl _)
  have h2 : ¬ k + 1 ≤ tot p q a b (nth p q a b k) := fun z => by
    have := (nth_ge r hp _ k).mp z
    omega
  have h3 := tot_step r (nth p q a b k)
  omega
theorem tot_zero (r : IsRule p q a b) : tot p q a b 0 = 0 := by
  rw [tot_kk r]
  exact tf_zero r.form
theorem nth_nn (r : IsRule p q a b) (hp : 0 < p) (hk : 0 ≤ k) : 0 ≤ nth p q a b k := by
  have h : ¬ nth p q a b k + 1 ≤ 0 := fun z => by
    have := (nth_ge r hp 0 k).mpr z
    rw [tot_zero r] at this
    omega
  omega
theorem nth_mono (r : IsRule p q a b) (hp : 0 < p) {k j : Int} (h : k ≤ j) : nth p q a b k ≤ nth p q a b j := by
  have h1 := (nth_ge r hp (nth p q a b j + 1) k).mp (by rw [(nth_tot r hp j).2]; omega)
  omega
end
section
variable {n : Nat} {S : Store}
end
end Q
namespace Q
open PySem L2
section
variable {n : Nat} {S : Store}
theorem c_int_fraction (i : Int) : callN Lib (n + 2) 5 [.int i] S = .ok (.bl false) S := by
  rw [callN_eq (d := f_is_fraction) rfl]
  refine run_keep rfl ?_
  simp [b_is_fraction, c_int_tuple]
def NoRule (d : D) : Prop := ∀ n S, callN Lib (n + 4) 62 [d] S = .ok (.bl false) S
theorem noRule_line {d : D} (h : ∀ n S, callN Lib (n + 3) 61 [d] S = .ok (.bl false) S) : NoRule d := fun n S => by
  rw [callN_eq (d := f_is_rule) rfl]
  refine run_keep rfl ?_
  simp [b_is_rule, h]
theorem line_tuple {d : D} (h : ∀ n S, callN Lib (n + 2) 3 [d, .int 2] S = .ok (.bl false) S) : NoRule d := noRule_line fun n S => by
  rw [callN_eq (d := f_is_line) rfl]
  refine run_keep rfl ?_
  simp [b_is_line, h]
theorem noRule_non : NoRule .non := line_tuple fun n S => c_not_tuple (n := n + 1) _ _ rfl (fun ds h => by cases h)
theorem noRule_int (i : Int) : NoRule (.int i) := line_tuple fun n S => c_int_tuple (n := n + 1) i 2
theorem noRule_lst (ds : List D) : NoRule (.lst ds) := line_tuple fun n S => c_not_tuple (n := n + 1) _ _ rfl (fun ds h => by cases h)
theorem noRule_pair (i j : Int) : NoRule (.tup [.int i, .int j]) := noRule_line fun n S => by
  rw [callN_eq (d := f_is_line) rfl]
  refine run_keep rfl ?_
  simp [b_is_line, c_is_tuple_of, c_int_fraction]
theorem noRule_rul {p q a b : Int} (hp : p.natAbs < 2 ^ 59) (hq : q.natAbs < 2 ^ 59) (ha : a.natAbs < 2 ^ 59) (hb : b.natAbs < 2 ^ 59) (h : ¬ IsRule p q a b) : NoRule (rul p q a b) := fun n S => by
  obtain ⟨t, e, ht⟩ := c_is_rule (n := n) (S := S) p q a b hp hq ha hb
  cases t with
  | false => exact e
  | true => exact absurd (ht.mp rfl) h
theorem c_check_no {d : D} (h : NoRule d) : callN Lib (n + 5) 63 [d] S = .ex ⟨5, []⟩ S := by
  rw [callN_eq (d := f_check_rule) rfl]
  have e := h n S
  refine run_ex (s' := [some d]) rfl ?_
  simp [b_check_rule, e]
end
end Q
namespace Q
open PySem L2
section
variable {n k : Nat} {S : Store}
theorem b_lstep_ok (c : CallT) {S1 S2 S3 : Store} (wide m v w : Int) (X : D)
    (h1 : c 91 [.ptr k, .lst [.int 3, .int 12, .int wide, .int wide]] S = .ok (.int m) S1) (h2 : c 90 [.ptr k, .int m] S1 = .ok (.int v) S2)
    (h3 : c 90 [.ptr k, .int (1 + v + 1)] S2 = .ok (.int w) S3) (h4 : c 110 [.int w, .int (1 + v)] S3 = .ok X S3) :
    b_law_step c [some (.ptr k), some (.int wide), none] S = some (.ret X, S3) := by
  simp [b_law_step, h1, h2, h3, h4]
theorem c_lstep (H : Hd k S) (wide : Int) (h1 : 1 ≤ wide) (h2 : wide ≤ 10000) :
    ∃ p q S', callN Lib (n + 3) 113 [.ptr k, .int wide] S = .ok (.tup [.int p, .int q]) S' ∧ Hd k S' ∧ 1 ≤ q ∧ q ≤ 10000 ∧ 0 ≤ p ∧ p ≤ q ∧ Int.gcd p q = 1 := by
  obtain ⟨m, S1, e1, H1, -, b1⟩ := c_anyi (n := n) H [3, 12, wide, wide] (by simp) (by simp) (fun v => 1 ≤ v ∧ v ≤ 10000) (fun v hv => by
    simp only [List.mem_cons, List.not_mem_nil, or_false] at hv
    omega)
  obtain ⟨v, S2, e2, H2, -, b2, b3⟩ := c_draw (n := n + 1) H1 m (by omega) (by omega)
  obtain ⟨w, S3, e3, H3, -, b4, b5⟩ := c_draw (n := n + 1) H2 (1 + v + 1) (by omega) (by omega)
  refine ⟨(lo w (1 + v)).1, (lo w (1 + v)).2, S3, ?_, H3, lo_y1 (by omega), Int.le_trans (lo_y2 (by omega)) (by omega), lo_x0 b4, lo_le (by omega) (by omega), lo_gcd (by omega)⟩
  rw [callN_eq (d := f_law_step) rfl]
  exact run_keep rfl (b_lstep_ok _ wide m v w _ e1 e2 e3 (c_lfrac w (1 + v) (by omega) (by omega)))
end
end Q
namespace Q
open PySem L2
theorem get_del_ne {S : Store} {k j : Nat} (h : j ≠ k) : (S.del k).get j = S.get j := by
  unfold Store.get Store.del
  simp [List.getElem?_set_ne (Ne.symm h)]
theorem get_cut_lt {S : Store} {n j : Nat} (h : j < n) : (S.cut n).get j = S.get j := by
  unfold Store.get Store.cut
  simp [List.getElem?_take, h]
theorem Upd.len {k : Nat} {S S' : Store} (h : Upd k S S') : S'.L.length = S.L.length := by
  obtain ⟨xs, rfl⟩ := h
  exact put_len
theorem Upd.other {k j : Nat} {S S' : Store} (h : Upd k S S') (hj : j ≠ k) : S'.get j = S.get j := by
  obtain ⟨xs, rfl⟩ := h
  exact get_put_ne hj
theorem Hd.lt {k : Nat} {S : Store} (h : Hd k S) : k < S.L.length := h.elim fun _ z => get_lt z.1
theorem Hd.new {k : Nat} {S : Store} (h : Hd k S) (xs : List D) : Hd k (S.new xs) := by
  obtain ⟨x, g, ok⟩ := h
  exact ⟨x, by rw [get_new_lt (get_lt g)]; exact g, ok⟩
theorem Hd.put {k j : Nat} {S : Store} (h : Hd k S) (hj : k ≠ j) (xs : List D) : Hd k (S.put j xs) := by
  obtain ⟨x, g, ok⟩ := h
  exact ⟨x, by rw [get_put_ne hj]; exact g, ok⟩
theorem Hd.del {k j : Nat} {S : Store} (h : Hd k S) (hj : k ≠ j) : Hd k (S.del j) := by
  obtain ⟨x, g, ok⟩ := h
  exact ⟨x, by rw [get_del_ne hj]; exact g, ok⟩
theorem Hd.cut {k n : Nat} {S : Store} (h : Hd k S) (hn : k < n) : Hd k (S.cut n) := by
  obtain ⟨x, g, ok⟩ := h
  exact ⟨x, by rw [get_cut_lt hn]; exact g, ok⟩
@[simp] theorem del_len {S : Store} {k : Nat} : (S.del k).L.length = S.L.length := by unfold Store.del; simp
@[simp] theorem new_len {S : Store} {xs : List D} : (S.new xs).L.length = S.L.length + 1 := by unfold Store.new; simp
theorem flats_of : ∀ {ds : List D}, (∀ d ∈ ds, d.flat = true) → flats ds = true
  | [], _ => rfl
  | d :: ds, h => by
    unfold flats
    rw [h d List.mem_cons_self, flats_of fun e he => h e (List.mem_cons_of_mem _ he)]
    rfl
def RuleD (d : D) : Prop := ∃ p q a b, d = rul p q a b ∧ IsRule p q a b
theorem RuleD.flat {d : D} (h : RuleD d) : d.flat = true := by
  obtain ⟨p, q, a, b, rfl, _⟩ := h
  rfl
theorem append_ok {S : Store} {j : Nat} {xs : List D} {d : D} (g : S.get j = some xs) (hl : xs.length ≤ 1000) (hf : d.flat = true) : oAppend [.ptr j, d] S = some (.non, S.put j (xs ++ [d])) := by
  have e : lineOk xs.length = true := by unfold lineOk; rw [decide_eq_true_iff, PySem.sizeLine_eq]; omega
  simp [oAppend, g, e, hf]
theorem isLst_ok {S : Store} {j : Nat} {xs : List D} (g : S.get j = some xs) : isLstD (.ptr j) S = true := by simp [isLstD, itemsL, g]
def StartD (d : D) : Prop := ∃ a b, d = .tup [.int a, .int b] ∧ 1 ≤ b ∧ b ≤ 10000 ∧ 0 ≤ a ∧ a < b ∧ Int.gcd a b = 1
def StepD (d : D) : Prop := ∃ p q, d = .tup [.int p, .int q] ∧ 1 ≤ q ∧ q ≤ 10000 ∧ 0 ≤ p ∧ p ≤ q ∧ Int.gcd p q = 1
section
variable {n k : Nat} {S : Store}
theorem ruleD_of {x y : D} (hx : StepD x) (hy : StartD y) : RuleD (.tup [x, y]) := by
  obtain ⟨p, q, rfl, h1, h2, h3, h4, h5⟩ := hx
  obtain ⟨a, b, rfl, g1, g2, g3, g4, g5⟩ := hy
  exact ⟨p, q, a, b, rfl, h1, h2, h3, h4, h5, g1, g2, g3, g4, g5⟩
def turnR (c : CallT) : TSt := tExpr (eM isLstD oAppend (eV 2) [eTup [eV 3, eCall c 91 [eV 0, eV 1]]])
theorem turnR_ok (c : CallT) {S1 : Store} {j : Nat} {xs ds : List D} {x y : D} (g : S.get j = some xs) (g1 : S1.get j = some xs) (hl : xs.length ≤ 1000) (hf : (D.tup [x, y]).flat = true)
    (h : c 91 [.ptr k, .lst ds] S = .ok y S1) : turnR c [some (.ptr k), some (.lst ds), some (.ptr j), some x] S = some (.nx [some (.ptr k), some (.lst ds), some (.ptr j), some x], S1.put j (xs ++ [.tup [x, y]])) := by
  have a1 := isLst_ok g
  have a2 := append_ok g1 hl hf
  unfold turnR
  simp [a1, h, a2]
def InvR (k j : Nat) (ds : List D) (m : Nat) (s : Sl) (S : Store) : Prop := (∃ u, s = [some (.ptr k), some (.lst ds), some (.ptr j), u]) ∧ Hd k S ∧ S.L.length = j + 1 ∧ k < j ∧ ∃ xs, S.get j = some xs ∧ xs.length ≤ m ∧ ∀ d ∈ xs, RuleD d
theorem turnR_inv {j m : Nat} {ds : List D} (hm : m ≤ 1000) (hds : ∀ d ∈ ds, StartD d) (h0 : 0 < ds.length) (h1 : ds.length ≤ 1000) {x : D} (hx : StepD x) (s : Sl) (h : InvR k j ds m s S) :
    ∃ s2 S2, turnR (callN Lib (n + 3)) (s.set 3 (some x)) S = some (.nx s2, S2) ∧ InvR k j ds (m + 1) s2 S2 := by
  obtain ⟨⟨u, rfl⟩, H, hl, hkj, xs, g, hxs, hr⟩ := h
  obtain ⟨y, S1, e, H1, U, my⟩ := c_any (n := n + 1) H ds h0 (by omega)
  have hj : j ≠ k := by omega
  have g1 : S1.get j = some xs := (U.other hj).trans g
  have hy := ruleD_of hx (hds y my)
  refine ⟨_, _, turnR_ok _ g g1 (by omega) hy.flat e, ⟨_, rfl⟩, H1.put (Ne.symm hj) _, by rw [put_len, U.len, hl], hkj, _, get_put_self g1, by simp; omega, fun d hd => ?_⟩
  rcases List.mem_append.mp hd with z | z
  · exact hr d z
  · rw [List.mem_singleton.mp z]; exact hy
theorem forR {j : Nat} {ds : List D} (hds : ∀ d ∈ ds, StartD d) (h0 : 0 < ds.length) (h1 : ds.length ≤ 1000) : ∀ (xs : List D) (m : Nat) (s : Sl) (S : Store), (∀ x ∈ xs, StepD x) → InvR k j ds m s S → m + xs.length ≤ 1000 →
    ∃ s2 S2, forL (.nm 3) (turnR (callN Lib (n + 3))) xs s S = some (.nx s2, S2) ∧ InvR k j ds (m + xs.length) s2 S2
  | [], m, s, S, _, h, _ => ⟨s, S, rfl, h⟩
  | x :: xs, m, s, S, hx, h, hm => by
    obtain ⟨s1, S1, e1, i1⟩ := turnR_inv (n := n) (m := m) (by simp at hm; omega) hds h0 h1 (hx x List.mem_cons_self) s h
    obtain ⟨s2, S2, e2, i2⟩ := forR hds h0 h1 xs (m + 1) s1 S1 (fun y hy => hx y (List.mem_cons_of_mem _ hy)) i1 (by simp at hm ⊢; omega)
    refine ⟨s2, S2, ?_, by rw [List.length_cons, Nat.add_comm xs.length 1, ← Nat.add_assoc]; exact i2⟩
    unfold forL
    simp only [put_nm, e1, e2]
end
end Q
namespace Q
open PySem L2
section
variable {n k : Nat} {S : Store}
def tots (p q a b first : Int) (m : Nat) : List D := (List.range (m + 1)).map fun (i : Nat) => .int (tot p q a b (first + i))
theorem lc_rng2 {i : Nat} {t e : TE} {s : Sl} {S : Store} {lo : Int} {m : Nat} (f : Nat → D) (h : ∀ j : Nat, j < m → t (s.set i (some (.int (lo + j)))) S = .ok (.bl true) S ∧ e (s.set i (some (.int (lo + j)))) S = .ok (f j) S) (hm : m ≤ 16777216) :
    lcL (.nm i) t e s (rngL lo m) [] S = .ok (.lst ((List.range m).map f)) S := by
  rw [lc_map (fun d => match d with | .int j => f (j - lo).toNat | d => d)]
  · unfold rngL
    rw [List.map_map, List.nil_append]
    congr 2
    refine List.map_congr_left fun j _ => ?_
    show f (lo + j - lo).toNat = f j
    congr 1
    omega
  · intro d hd
    obtain ⟨j, hj, rfl⟩ := rngL_mem hd
    have := h j hj
    have e2 : (lo + (j : Int) - lo).toNat = j := by omega
    simpa [e2] using this
  · rw [rngL_len, PySem.sizeLine_eq]
    simpa using hm
theorem zip_tots (p q a b first : Int) (m : Nat) : List.zipWith (fun d e => D.tup [d, e]) (tots p q a b first m) ((tots p q a b first m).drop 1) = (List.range m).map fun (i : Nat) => .tup [.int (tot p q a b (first + i)), .int (tot p q a b (first + (i + 1 : Nat)))] := by
  apply List.ext_getElem
  · simp [tots]
  · intro i h1 h2
    simp [tots]
theorem lc_duty {s : Sl} {p q a b first : Int} {m : Nat} (h5 : 5 < s.length) (h6 : 6 < s.length) (hm : m ≤ 16777216) :
    lcL (.tp [.nm 5, .nm 6]) (eC (.bl true)) (eIf (e2 oGt (eV 6) (eV 5)) (eC (.str "1")) (eC (.str "0"))) s ((List.range m).map fun (i : Nat) => .tup [.int (tot p q a b (first + i)), .int (tot p q a b (first + (i + 1 : Nat)))]) [] S = .ok (.lst ((days p q a b first m).map fun b => .str (sgn b))) S := by
  rw [lc_mapP (fun d => match d with | .tup [.int x, .int y] => .str (sgn (decide (x < y))) | d => d)]
  · rw [List.nil_append, List.map_map]
    unfold days
    rw [List.map_map]
    refine congrArg (fun z => Res.ok (D.lst z) S) (List.map_congr_left fun i _ => ?_)
    show D.str (sgn (decide (tot p q a b (first + i) < tot p q a b (first + (i + 1 : Nat))))) = .str (sgn (dut p q a b (first + i)))
    unfold dut
    rw [show first + ((i + 1 : Nat) : Int) = first + i + 1 by omega]
  · intro d hd
    obtain ⟨i, _, rfl⟩ := List.mem_map.mp hd
    refine ⟨(s.set 5 (some (.int (tot p q a b (first + i))))).set 6 (some (.int (tot p q a b (first + (i + 1 : Nat))))), by simp, rfl, ?_⟩
    by_cases h : tot p q a b (first + i) < tot p q a b (first + (i + 1 : Nat))
    · simp only [eIf_eq]
      have h' := h
      push_cast at h'
      simp [h5, h6, sgn]
      simp [h']
    · simp only [eIf_eq]
      have h' := h
      push_cast at h'
      simp [h5, h6, sgn]
      simp [h']
  · rw [PySem.sizeLine_eq]
    simp
    omega
theorem b_by_ok (c : CallT) {p q a b : Int} (first : Int) (m : Nat) (h0 : 0 ≤ first) (h1 : first ≤ 1000000000000) (hm : m ≤ 1000) (h : ∀ k, c 111 [rul p q a b, .int k] S = .ok (.int (tot p q a b k)) S) :
    b_law_by c [some (rul p q a b), some (.int first), some (.int m), none, none, none, none] S = some (.ret (.str (wrd (days p q a b first m))), S) := by
  have rg : iRng2 [.int first, .int (first + m + 1)] = some (rngL first (m + 1)) := by
    have o1 : rngOk first = true := by unfold rngOk; simp only [Bool.and_eq_true, decide_eq_true_eq]; omega
    have o2 : rngOk (first + m + 1) = true := by unfold rngOk; simp only [Bool.and_eq_true, decide_eq_true_eq]; omega
    have e : (first + (m : Int) + 1 - first).toNat = m + 1 := by omega
    simp [iRng2, o1, o2, e]
  have l1 : ∀ s : Sl, s[0]? = some (some (rul p q a b)) → 4 < s.length → lcL (.nm 4) (eC (.bl true)) (eCall c 111 [eV 0, eV 4]) s (rngL first (m + 1)) [] S = .ok (.lst (tots p q a b first m)) S := fun s g0 g4 =>
    lc_rng2 _ (fun j hj => ⟨rfl, by simp [g0, g4, h]⟩) (by omega)
  have z : iZip [.lst (tots p q a b first m), .lst ((tots p q a b first m).drop 1)] = some ((List.range m).map fun (i : Nat) => .tup [.int (tot p q a b (first + i)), .int (tot p q a b (first + (i + 1 : Nat)))]) := by
    rw [← zip_tots]; rfl
  have ct : ∀ S, oCut (.lst (tots p q a b first m)) (some 1) none S = some (.lst ((tots p q a b first m).drop 1), S) := fun S => by
    unfold oCut cutD
    have e1 : (some (1 : Int)) = some ((1 : Nat) : Int) := rfl
    have hl : (tots p q a b first m).length = m + 1 := by simp [tots]
    simp only [e1, HT.sIx_nat, HT.sIx_none, hl]
    rw [Nat.min_eq_left (by omega), List.take_of_length_le (by simp [hl])]
  have l2 := fun (s : Sl) g5 g6 => lc_duty (S := S) (s := s) (p := p) (q := q) (a := a) (b := b) (first := first) (m := m) g5 g6 (by omega)
  have jn := oJoin_sgn (S := S) (l := days p q a b first m) (by rw [days_len]; omega)
  generalize tots p q a b first m = L at l1 z ct
  generalize ((List.range m).map fun (i : Nat) => D.tup [.int (tot p q a b (first + i)), .int (tot p q a b (first + (i + 1 : Nat)))]) = Z at z l2
  rw [List.drop_one] at z
  simp only [List.drop_one] at ct
  unfold b_law_by w_law_by_0 w_law_by_1
  simp [rg, l1, isStrD, eCutL, ePart, partK, ct, z, l2, jn]
theorem c_by {p q a b : Int} (r : IsRule p q a b) (first : Int) (m : Nat) (h0 : 0 ≤ first) (h1 : first ≤ 1000000000000) (hm : m ≤ 1000) : callN Lib (n + 2) 112 [rul p q a b, .int first, .int m] S = .ok (.str (wrd (days p q a b first m))) S := by
  rw [callN_eq (d := f_law_by) rfl]
  exact run_keep rfl (b_by_ok _ first m h0 h1 hm fun k => c_luntil r k)
end
end Q
namespace Q
open PySem L2
theorem lc_inv {p : Pat} {t e : TE} {s : Sl} (I : Store → Prop) (P : D → Prop) : ∀ (ds acc : List D) (S : Store), (∀ d ∈ ds, ∀ S, I S → ∃ s1, p.put d s = some s1 ∧ t s1 S = .ok (.bl true) S ∧ ∃ r S', e s1 S = .ok r S' ∧ I S' ∧ P r) → I S → acc.length + ds.length ≤ sizeLine →
    ∃ rs S', lcL p t e s ds acc S = .ok (.lst (acc ++ rs)) S' ∧ I S' ∧ rs.length = ds.length ∧ ∀ r ∈ rs, P r
  | [], acc, S, _, h, _ => ⟨[], S, by simp [lcL], h, rfl, by simp⟩
  | d :: ds, acc, S, h, hI, hl => by
    obtain ⟨s1, h0, h1, r, S1, h2, h3, h4⟩ := h d List.mem_cons_self S hI
    simp only [List.length_cons] at hl
    have h5 : lineOk acc.length = true := by unfold lineOk; exact decide_eq_true (by omega)
    obtain ⟨rs, S', e, g1, g2, g3⟩ := lc_inv I P ds (acc ++ [r]) S1 (fun d' hd => h d' (List.mem_cons_of_mem _ hd)) h3 (by simp; omega)
    refine ⟨r :: rs, S', ?_, g1, by simp [g2], fun x hx => ?_⟩
    · unfold lcL
      simp only [h0, h1, h2, h5, if_true]
      rw [e]
      simp
    · rcases List.mem_cons.mp hx with z | z
      · rw [z]; exact h4
      · exact g3 x z
theorem of_sgns : ∀ {rs : List D}, (∀ r ∈ rs, ∃ b, r = .str (sgn b)) → ∃ l : List Bool, rs = l.map (fun b => .str (sgn b)) ∧ l.length = rs.length
  | [], _ => ⟨[], rfl, rfl⟩
  | r :: rs, h => by
    obtain ⟨b, rfl⟩ := h r List.mem_cons_self
    obtain ⟨l, e, hl⟩ := of_sgns fun x hx => h x (List.mem_cons_of_mem _ hx)
    exact ⟨b :: l, by simp [e], by simp [hl]⟩
section
variable {n k : Nat} {S : Store}
theorem c_any01 (H : Hd k S) : ∃ b S', callN Lib (n + 2) 91 [.ptr k, .str "01"] S = .ok (.str (sgn b)) S' ∧ Hd k S' ∧ Upd k S S' := by
  have l2 : ("01" : Str).length = 2 := by decide +kernel
  obtain ⟨r, S1, e, H1, U, r0, r1⟩ := c_draw (n := n) H 2 (by omega) (by omega)
  have e0 : oLen [.str "01"] S = some (.int 2, S) := by
    rw [oLen_str (by omega), l2]; rfl
  have hx : ∀ S, ∃ b, oIx (.str "01") (.int r) S = some (.str (sgn b), S) := fun S => by
    rcases (show r = 0 ∨ r = 1 by omega) with rfl | rfl
    · exact ⟨false, (oIx_str (z := "01") (i := 0) (c := 48) (by omega) (by rw [s01]; rfl)).trans (by rw [sgn_wrd]; rfl)⟩
    · exact ⟨true, (oIx_str (z := "01") (i := 1) (c := 49) (by omega) (by rw [s01]; rfl)).trans (by rw [sgn_wrd]; rfl)⟩
  obtain ⟨b, hb⟩ := hx S1
  refine ⟨b, S1, ?_, H1, U⟩
  rw [callN_eq (d := f_law_any) rfl]
  generalize callN Lib (n + 1) = c at e
  refine run_keep rfl ?_
  simp [b_law_any, e0, e, hb]
theorem mul_sgn (b : Bool) (m : Nat) (h : m ≤ 10000) : oMulL (.str (sgn b)) (.int m) S = some (.str (wrd (List.replicate m b)), S) := by
  have hl : (sgn b).length = 1 := sgn_len b
  have hz : (1 : Nat) * m ≤ sizeLine := by rw [PySem.sizeLine_eq]; omega
  have e : (⟨((List.replicate m (sgn b).cps.toList).flatten).toArray⟩ : Str) = wrd (List.replicate m b) := by
    rw [sgn_wrd]
    unfold wrd
    congr 1
    rw [List.map_replicate]
    congr 1
    induction m with
    | zero => rfl
    | succ m ih => rw [List.replicate_succ, List.flatten_cons, ih (by omega) (by omega)]; rfl
  unfold oMulL
  simp only [hl, Int.toNat_natCast]
  rw [if_pos (by simp only [Bool.and_eq_true, decide_eq_true_eq]; omega), e]
end
end Q
set_option maxHeartbeats 2000000
namespace Q
def rr (p q m : Nat) : Nat := m * p % q
section
variable {p q : Nat}
theorem rr_lt (hq : 0 < q) (m : Nat) : rr p q m < q := Nat.mod_lt _ hq
theorem rr_add (hq : 0 < q) (x y : Nat) : rr p q x + rr p q y = rr p q (x + y) ∨ rr p q x + rr p q y = rr p q (x + y) + q := by
  unfold rr
  rw [Nat.add_mul, Nat.add_mod]
  have h1 := Nat.mod_lt (x * p) hq
  have h2 := Nat.mod_lt (y * p) hq
  generalize x * p % q = a at *
  generalize y * p % q = b at *
  by_cases h : a + b < q
  · rw [Nat.mod_eq_of_lt h]
    exact .inl rfl
  · have e : (a + b) % q = a + b - q := by
      rw [Nat.mod_eq_sub_mod (by omega), Nat.mod_eq_of_lt (by omega)]
    omega
theorem rr_pos (hc : Nat.gcd p q = 1) {m : Nat} (h0 : 0 < m) (h1 : m < q) : 0 < rr p q m := by
  refine Nat.pos_of_ne_zero fun h => ?_
  unfold rr at h
  have d : q ∣ m * p := Nat.dvd_of_mod_eq_zero h
  have c : Nat.Coprime q p := by
    unfold Nat.Coprime
    rw [Nat.gcd_comm]
    exact hc
  have := Nat.le_of_dvd h0 (c.dvd_of_dvd_mul_right d)
  omega
def dd (p q i j : Nat) : Nat := if i < j then rr p q (j - i) else q - rr p q (i - j)
theorem least_of_fn (f : Nat → Nat) (n : Nat) (h : 2 ≤ n) : ∃ u, 1 ≤ u ∧ u < n ∧ ∀ m, 1 ≤ m → m < n → f u ≤ f m := by
  induction n with
  | zero => omega
  | succ n ih =>
    by_cases h2 : n = 1
    · subst h2
      exact ⟨1, by omega, by omega, fun m h1 h3 => by rw [show m = 1 by omega]; exact Nat.le_refl _⟩
    · obtain ⟨u, u1, u2, hu⟩ := ih (by omega)
      by_cases hf : f u ≤ f n
      · exact ⟨u, u1, by omega, fun m h1 h3 => by
          by_cases e : m = n
          · rw [e]; exact hf
          · exact hu m h1 (by omega)⟩
      · exact ⟨n, by omega, by omega, fun m h1 h3 => by
          by_cases e : m = n
          · rw [e]; exact Nat.le_refl _
          · have := hu m h1 (by omega)
            omega⟩
theorem three_gap (hc : Nat.gcd p q = 1) {n : Nat} (h2 : 2 ≤ n) (hn : n ≤ q) : ∃ a b, 0 < a ∧ 0 < b ∧ ∀ i, i < n → ∃ j, j < n ∧ j ≠ i ∧ (dd p q i j = a ∨ dd p q i j = b ∨ dd p q i j = a + b) ∧ ∀ k, k < n → k ≠ i → dd p q i j ≤ dd p q i k := by
  have hq : 0 < q := by omega
  obtain ⟨u, u1, u2, hu⟩ := least_of_fn (rr p q) n h2
  obtain ⟨v, v1, v2, hv⟩ := least_of_fn (fun m => q - rr p q m) n h2
  have L := rr_lt (p := p) hq
  have A := rr_add (p := p) hq
  have P : ∀ m, 1 ≤ m → m < n → 0 < rr p q m := fun m h1 h3 => rr_pos hc h1 (by omega)
  have pu := P u u1 u2
  have pv := P v v1 v2
  have lu := L u
  have lv := L v
  refine ⟨rr p q u, q - rr p q v, pu, by omega, fun i hi => ?_⟩
  have hv' : ∀ m, 1 ≤ m → m < n → rr p q m ≤ rr p q v := fun m h1 h3 => by
    have : q - rr p q v ≤ q - rr p q m := hv m h1 h3
    have := L m
    omega
  by_cases c1 : i + u < n
  · refine ⟨i + u, c1, by omega, .inl ?_, fun k hk hki => ?_⟩
    · unfold dd
      rw [if_pos (by omega), show i + u - i = u by omega]
    · unfold dd
      rw [if_pos (by omega), show i + u - i = u by omega]
      by_cases hik : i < k
      · rw [if_pos hik]
        exact hu _ (by omega) (by omega)
      · rw [if_neg hik]
        have e := A (i - k) u
        have m := hu (i - k + u) (by omega) (by omega)
        have := L (i - k)
        have := L (i - k + u)
        omega
  · by_cases c2 : v ≤ i
    · refine ⟨i - v, by omega, by omega, .inr (.inl ?_), fun k hk hki => ?_⟩
      · unfold dd
        rw [if_neg (by omega), show i - (i - v) = v by omega]
      · unfold dd
        rw [if_neg (by omega), show i - (i - v) = v by omega]
        by_cases hik : i < k
        · rw [if_pos hik]
          have e := A (k - i) v
          have m := hv' (k - i + v) (by omega) (by omega)
          have := P (k - i) (by omega) (by omega)
          have := L (k - i + v)
          omega
        · rw [if_neg hik]
          have := hv' (i - k) (by omega) (by omega)
          omega
    · have huv : u ≠ v := fun e => by
        have n2 : n = 2 := by
          refine Nat.le_antisymm (Nat.le_of_not_lt fun h3 => ?_) h2
          have a1 := hu 1 (by omega) (by omega)
          have a2 := hu 2 (by omega) (by omega)
          have b1 := hv' 1 (by omega) (by omega)
          have b2 := hv' 2 (by omega) (by omega)
          have e2 := A 1 1
          have := L 1
          have := P 1 (by omega) (by omega)
          rw [e] at a1 a2
          simp only [Nat.reduceAdd] at e2
          omega
        omega
      have key : dd p q i (i + u - v) = rr p q u + (q - rr p q v) := by
        unfold dd
        by_cases h : v < u
        · rw [if_pos (by omega), show i + u - v - i = u - v by omega]
          have e := A (u - v) v
          rw [show u - v + v = u by omega] at e
          have := hu (u - v) (by omega) (by omega)
          omega
        · rw [if_neg (by omega), show i - (i + u - v) = v - u by omega]
          have e := A u (v - u)
          rw [show u + (v - u) = v by omega] at e
          have := hv' (v - u) (by omega) (by omega)
          have := L (v - u)
          omega
      refine ⟨i + u - v, by omega, by omega, .inr (.inr key), fun k hk hki => ?_⟩
      rw [key]
      unfold dd
      by_cases hik : i < k
      · rw [if_pos hik]
        have e := A (k - i) (u - (k - i))
        rw [show k - i + (u - (k - i)) = u by omega] at e
        have m1 := hu (k - i) (by omega) (by omega)
        have m2 := hv' (u - (k - i)) (by omega) (by omega)
        have m3 := P (u - (k - i)) (by omega) (by omega)
        have := L (u - (k - i))
        omega
      · rw [if_neg hik]
        have e := A (i - k) (v - (i - k))
        rw [show i - k + (v - (i - k)) = v by omega] at e
        have m1 := hv' (i - k) (by omega) (by omega)
        have m2 := hu (v - (i - k)) (by omega) (by omega)
        have m3 := L (i - k)
        have := L (v - (i - k))
        omega
theorem rr_inj (hc : Nat.gcd p q = 1) {i k : Nat} (hi : i < q) (hk : k < q) (e : rr p q i = rr p q k) : i = k := by
  have hq : 0 < q := by omega
  rcases Nat.lt_trichotomy i k with h | h | h
  · have a := rr_add (p := p) hq i (k - i)
    rw [show i + (k - i) = k by omega] at a
    have := rr_pos hc (m := k - i) (by omega) (by omega)
    have := rr_lt (p := p) hq (k - i)
    omega
  · exact h
  · have a := rr_add (p := p) hq k (i - k)
    rw [show k + (i - k) = i by omega] at a
    have := rr_pos hc (m := i - k) (by omega) (by omega)
    have := rr_lt (p := p) hq (i - k)
    omega
theorem dd_val (hc : Nat.gcd p q = 1) {i k : Nat} (hi : i < q) (hk : k < q) (h : k ≠ i) : dd p q i k + rr p q i = if rr p q i < rr p q k then rr p q k else rr p q k + q := by
  have hq : 0 < q := by omega
  have li := rr_lt (p := p) hq i
  have lk := rr_lt (p := p) hq k
  have ne : rr p q i ≠ rr p q k := fun e => h (rr_inj hc hi hk e).symm
  unfold dd
  by_cases hik : i < k
  · rw [if_pos hik]
    have a := rr_add (p := p) hq i (k - i)
    rw [show i + (k - i) = k by omega] at a
    have := rr_pos hc (m := k - i) (by omega) (by omega)
    have := rr_lt (p := p) hq (k - i)
    split <;> omega
  · rw [if_neg hik]
    have a := rr_add (p := p) hq k (i - k)
    rw [show k + (i - k) = i by omega] at a
    have := rr_pos hc (m := i - k) (by omega) (by omega)
    have := rr_lt (p := p) hq (i - k)
    split <;> omega
theorem gaps3 (hc : Nat.gcd p q = 1) {n : Nat} (h2 : 2 ≤ n) (hn : n ≤ q) : ∃ a b, 0 < a ∧ 0 < b ∧
    (∀ i k, i < n → k < n → rr p q i < rr p q k → (∀ m, m < n → ¬ (rr p q i < rr p q m ∧ rr p q m < rr p q k)) → rr p q k - rr p q i = a ∨ rr p q k - rr p q i = b ∨ rr p q k - rr p q i = a + b) ∧
    (∀ i, i < n → (∀ m, m < n → rr p q m ≤ rr p q i) → q - rr p q i = a ∨ q - rr p q i = b ∨ q - rr p q i = a + b) := by
  have hq : 0 < q := by omega
  obtain ⟨a, b, a0, b0, T⟩ := three_gap hc h2 hn
  refine ⟨a, b, a0, b0, fun i k hi hk hik hb => ?_, fun i hi hm => ?_⟩
  · obtain ⟨j, hj, ji, d, m⟩ := T i hi
    have mk := m k hk (fun e => by rw [e] at hik; omega)
    have vk := dd_val hc (i := i) (k := k) (by omega) (by omega) (fun e => by rw [e] at hik; omega)
    have vj := dd_val hc (i := i) (k := j) (by omega) (by omega) ji
    have bj := hb j hj
    have lk := rr_lt (p := p) hq k
    rw [if_pos hik] at vk
    split at vj <;> omega
  · obtain ⟨j, hj, ji, d, m⟩ := T i hi
    have z : rr p q 0 = 0 := by simp [rr]
    have p1 := rr_pos hc (m := 1) (by omega) (by omega)
    have i0 : i ≠ 0 := fun e => by
      have := hm 1 (by omega)
      rw [e, z] at this
      omega
    have m0 := m 0 (by omega) (fun e => i0 e.symm)
    have v0 := dd_val hc (i := i) (k := 0) (by omega) (by omega) (fun e => i0 e.symm)
    have vj := dd_val hc (i := i) (k := j) (by omega) (by omega) ji
    have hj2 := hm j hj
    rw [if_neg (by omega), z] at v0
    rw [if_neg (by omega)] at vj
    omega
theorem div_rr (hq : 0 < q) (i t : Nat) (ht : t < q) : (i * p + t) / q = i * p / q + if q ≤ rr p q i + t then 1 else 0 := by
  have e := Nat.div_add_mod (i * p) q
  have l := rr_lt (p := p) hq i
  unfold rr at *
  generalize i * p % q = r at *
  generalize hd : i * p / q = d at *
  rw [← e]
  by_cases h : q ≤ r + t
  · rw [if_pos h, show q * d + r + t = (r + t - q) + q * (d + 1) by rw [Nat.mul_add]; omega, Nat.add_mul_div_left _ _ hq, Nat.div_eq_of_lt (by omega)]
    omega
  · rw [if_neg h, show q * d + r + t = (r + t) + q * d by omega, Nat.add_mul_div_left _ _ hq, Nat.div_eq_of_lt (by omega)]
    omega
def sr (q r : Nat) : Nat := if r = 0 then 0 else q - r
theorem row_same {n : Nat} (hq : 0 < q) (h0 : 0 < n) {t : Nat} (ht : t < q) : ∃ i, i < n ∧ ∀ m, m < n → (m * p + t) / q = (m * p + sr q (rr p q i)) / q := by
  have z : rr p q 0 = 0 := by simp [rr]
  have L := rr_lt (p := p) hq
  have key : ∀ T, T ≤ t → (∃ i, i < n ∧ sr q (rr p q i) = T) → (∀ i, i < n → sr q (rr p q i) ≤ t → sr q (rr p q i) ≤ T) → ∃ i, i < n ∧ ∀ m, m < n → (m * p + t) / q = (m * p + sr q (rr p q i)) / q := fun T hT ⟨i, hi, e⟩ hm => by
    refine ⟨i, hi, fun m hmn => ?_⟩
    rw [e, div_rr hq m t ht, div_rr hq m T (by omega)]
    have b := hm m hmn
    have l := L m
    unfold sr at b
    by_cases h : q ≤ rr p q m + t
    · have : q ≤ rr p q m + T := by
        by_cases hz : rr p q m = 0
        · omega
        · rw [if_neg hz] at b
          omega
      rw [if_pos h, if_pos this]
    · rw [if_neg h, if_neg (by omega)]
  suffices ∀ k, k ≤ t → (∀ i, i < n → sr q (rr p q i) ≤ t → sr q (rr p q i) ≤ k) → ∃ i, i < n ∧ ∀ m, m < n → (m * p + t) / q = (m * p + sr q (rr p q i)) / q from this t (Nat.le_refl _) fun i _ h => h
  intro k
  induction k with
  | zero =>
    intro _ h
    exact key 0 (Nat.zero_le _) ⟨0, h0, by rw [z]; rfl⟩ h
  | succ k ih =>
    intro hk h
    by_cases he : ∃ i, i < n ∧ sr q (rr p q i) = k + 1
    · exact key (k + 1) hk he h
    · refine ih (by omega) fun i hi hs => ?_
      have := h i hi hs
      have : sr q (rr p q i) ≠ k + 1 := fun e => he ⟨i, hi, e⟩
      omega
theorem row_diff {n : Nat} (hq : 0 < q) {i k : Nat} (hi : i < n) (hk : k < n) (h : rr p q i ≠ rr p q k) : ∃ m, m < n ∧ (m * p + sr q (rr p q i)) / q ≠ (m * p + sr q (rr p q k)) / q := by
  have li := rr_lt (p := p) hq i
  have lk := rr_lt (p := p) hq k
  have si : sr q (rr p q i) < q := by unfold sr; split <;> omega
  have sk : sr q (rr p q k) < q := by unfold sr; split <;> omega
  by_cases hz : rr p q i = 0 ∨ (rr p q k < rr p q i ∧ rr p q k ≠ 0)
  · refine ⟨k, hk, ?_⟩
    rw [div_rr hq k _ si, div_rr hq k _ sk]
    have e1 : sr q (rr p q k) = q - rr p q k := by unfold sr; rw [if_neg (by omega)]
    have e2 : ¬ q ≤ rr p q k + sr q (rr p q i) := by
      unfold sr
      split <;> omega
    rw [if_neg e2, if_pos (by omega)]
    omega
  · refine ⟨i, hi, ?_⟩
    rw [div_rr hq i _ si, div_rr hq i _ sk]
    have e1 : sr q (rr p q i) = q - rr p q i := by unfold sr; rw [if_neg (by omega)]
    have e2 : ¬ q ≤ rr p q i + sr q (rr p q k) := by
      unfold sr
      split <;> omega
    rw [if_neg e2, if_pos (by omega)]
    omega
end
end Q
namespace Q
open PySem L2
theorem srtU_congr {xs ys : List Int} (h : ∀ j, j ∈ xs ↔ j ∈ ys) : srtU xs = srtU ys := asc_uniq asc_srtU asc_srtU fun j => by rw [mem_srtU, mem_srtU, h]
theorem srtU_self {xs : List Int} (h : xs.Pairwise (· < ·)) : srtU xs = xs := asc_uniq asc_srtU h fun j => mem_srtU
theorem len_insU {k : Int} : ∀ {xs : List Int}, (insU k xs).length ≤ xs.length + 1
  | [] => by simp [insU]
  | x :: xs => by
    unfold insU
    split
    · simp
    · split
      · simp
      · have := len_insU (k := k) (xs := xs)
        simp; omega
theorem len_srtU : ∀ {xs : List Int}, (srtU xs).length ≤ xs.length
  | [] => by simp [srtU]
  | k :: ks => by
    unfold srtU
    have := len_insU (k := k) (xs := srtU ks)
    have := len_srtU (xs := ks)
    simp; omega
def mks (p q : Int) (n : Nat) : List Int := srtU ((List.range n).map fun (i : Nat) => (i : Int) * p % q)
def gapL (L : List Int) (q : Int) : List Int := List.zipWith (fun a b => b - a) L (L.tail ++ [q])
theorem mem_mks {p q j : Int} {n : Nat} : j ∈ mks p q n ↔ ∃ i : Nat, i < n ∧ j = (i : Int) * p % q := by
  unfold mks
  rw [mem_srtU, List.mem_map]
  constructor
  · rintro ⟨i, hi, rfl⟩; exact ⟨i, List.mem_range.mp hi, rfl⟩
  · rintro ⟨i, hi, rfl⟩; exact ⟨i, List.mem_range.mpr hi, rfl⟩
theorem mks_len {p q : Int} {n : Nat} : (mks p q n).length ≤ n := by
  unfold mks
  refine Nat.le_trans len_srtU ?_
  simp
theorem mks_asc {p q : Int} {n : Nat} : (mks p q n).Pairwise (· < ·) := asc_srtU
theorem mks_rng {p q j : Int} {n : Nat} (hq : 0 < q) (h : j ∈ mks p q n) : 0 ≤ j ∧ j < q := by
  obtain ⟨i, _, rfl⟩ := mem_mks.mp h
  exact ⟨Int.emod_nonneg _ (by omega), Int.emod_lt_of_pos _ hq⟩
theorem mks_head {p q : Int} {n : Nat} (hq : 0 < q) (hn : 0 < n) : ∃ L, mks p q n = 0 :: L := by
  have h0 : (0 : Int) ∈ mks p q n := mem_mks.mpr ⟨0, hn, by simp⟩
  have ha := mks_asc (p := p) (q := q) (n := n)
  cases h : mks p q n with
  | nil => rw [h] at h0; cases h0
  | cons x L =>
    rw [h] at h0 ha
    have hx := mks_rng (p := p) (n := n) hq (j := x) (by rw [h]; simp)
    rcases List.mem_cons.mp h0 with e | e
    · exact ⟨L, by rw [e]⟩
    · have := (List.pairwise_cons.mp ha).1 0 e
      omega
theorem gapL_len {L : List Int} {q : Int} : (gapL L q).length ≤ L.length := by
  unfold gapL
  rw [List.length_zipWith]
  omega
section
variable {n : Nat} {S : Store}
@[simp] theorem eSrtS_eq {vs : List Nat} {p : Pat} {src : Src} {t e : TE} {s : Sl} : eSrtS vs p src t e s S = (src s S).bind fun ds S1 => (scL p t e (wipeS s vs) ds [] S1).bind fun ns S2 => .ok (.lst ((srtU ns).map .int)) S2 := (rfl)
theorem scL_map {p : Pat} {t e : TE} {s : Sl} (f : D → Int) : ∀ (ds : List D) (acc : List Int), (∀ d ∈ ds, ∃ s1, p.put d s = some s1 ∧ t s1 S = .ok (.bl true) S ∧ e s1 S = .ok (.int (f d)) S) → acc.length + ds.length + 2 ≤ 4096 → scL p t e s ds acc S = .ok ((ds.map f).reverse ++ acc) S
  | [], acc, _, _ => by simp [scL]
  | d :: ds, acc, h, hl => by
    obtain ⟨s1, h0, h1, h2⟩ := h d List.mem_cons_self
    simp only [List.length_cons] at hl
    have h3 : acc.length + 2 < scanBound := by
      have : scanBound = 4096 := rfl
      omega
    unfold scL
    simp only [h0, h1, h2, h3, if_true]
    rw [scL_map f ds (f d :: acc) (fun d' hd => h d' (List.mem_cons_of_mem _ hd)) (by simp; omega)]
    simp
theorem lc_ints {s : Sl} {i : Nat} {e : TE} (f : Int → D) (gs : List Int) (hl : gs.length ≤ 100000) (he : ∀ g ∈ gs, e (s.set i (some (.int g))) S = .ok (f g) S) : lcL (.nm i) (eC (.bl true)) e s (gs.map .int) [] S = .ok (.lst (gs.map f)) S := by
  rw [lc_map (fun d => match d with | .int g => f g | d => d)]
  · rw [List.nil_append, List.map_map]
    rfl
  · intro d hd
    obtain ⟨g, hg, rfl⟩ := List.mem_map.mp hd
    exact ⟨rfl, he g hg⟩
  · rw [PySem.sizeLine_eq]
    simp
    omega
def fqD (x y : Int) : D := .tup [.int (lo x y).1, .int (lo x y).2]
theorem c_fq (x y : Int) (hy : 0 < y) (hy2 : y < 1000000000) : callN Lib (n + 2) 6 [.int x, .int y] S = .ok (fqD x y) S := c_frac x y hy hy2
structure IsStep (p q : Int) : Prop where
  q1 : 1 ≤ q
  q2 : q ≤ 10000
  p0 : 0 ≤ p
  p1 : p ≤ q
  pq : Int.gcd p q = 1
theorem c_check_marks {p q : Int} (r : IsStep p q) (m : Nat) (h1 : 1 ≤ m) (h2 : m ≤ 500) : callN Lib (n + 3) 76 [.tup [.int p, .int q], .int m] S = .ok .non S := by
  rw [callN_eq (d := f_check_marks) rfl]
  obtain ⟨q1, q2, p0, p1, pq⟩ := r
  refine run_keep_nx (s' := [some (.tup [.int p, .int q]), some (.int m)]) rfl ?_
  have w := c_is_within (n := n) (S := S) (m : Int) 1 500
  rw [decide_eq_true (show (1 : Int) ≤ m ∧ (m : Int) ≤ 500 by omega)] at w
  have f := c_is_fraction (n := n) (S := S) p q (by omega)
  rw [decide_eq_true (show 1 ≤ q ∧ Int.gcd p q = 1 from ⟨q1, pq⟩)] at f
  have l1 := c_less (n := n + 1) (S := S) p q 0 1 (by omega) (by decide)
  have l2 := c_less (n := n + 1) (S := S) 1 1 p q (by decide) (by omega)
  rw [decide_eq_false (by omega)] at l1 l2
  have h3 : ¬ 10000 < q := by omega
  simp [b_check_marks, w, f, l1, l2, h3]
theorem rng_map (f : Int → Int) (m : Nat) : ((rngL 0 m).map fun d => match d with | .int j => f j | _ => 0) = (List.range m).map fun (i : Nat) => f i := by
  unfold rngL
  rw [List.map_map]
  refine List.map_congr_left fun i _ => ?_
  simp
theorem c_places {p q : Int} (r : IsStep p q) (m : Nat) (h2 : m ≤ 500) : callN Lib (n + 1) 56 [.tup [.int p, .int q], .int m] S = .ok (.lst ((mks p q m).map .int)) S := by
  rw [callN_eq (d := f_places) rfl]
  obtain ⟨q1, q2, p0, p1, pq⟩ := r
  refine run_keep rfl ?_
  have ir := iRng1_nat (m := m) (by omega)
  have e : ∀ s : Sl, s[0]? = some (some (.tup [.int p, .int q])) → 2 < s.length → scL (.nm 2) (eC (.bl true)) (w_places_0 (callN Lib n)) s (rngL 0 m) [] S = .ok (((rngL 0 m).map fun d => match d with | .int j => j * p % q | _ => 0).reverse ++ []) S := fun s g0 g2 => scL_map _ _ _ (fun d hd => by
    obtain ⟨i, hi, rfl⟩ := rngL_mem hd
    refine ⟨_, rfl, rfl, ?_⟩
    have m1 := fun S => oMul_l (S := S) (i := 0 + (i : Int)) (j := p) (by omega) (by omega)
    have m2 := fun x S => oMod_pos (S := S) (i := x) (j := q) (by omega)
    have g0' : (s.set 2 (some (.int (0 + (i : Int)))))[0]? = some (some (.tup [.int p, .int q])) := by rw [List.getElem?_set_ne (by decide)]; exact g0
    have g2' : (s.set 2 (some (.int (0 + (i : Int)))))[2]? = some (some (.int (0 + (i : Int)))) := List.getElem?_set_self g2
    generalize (s.set 2 (some (.int (0 + (i : Int))))) = s' at g0' g2'
    simp [w_places_0, g0', g2', m1, m2]
    have m1' := fun S => oMul_l (S := S) (i := (i : Int)) (j := p) (by omega) (by omega)
    simp [m1', m2]) (by rw [rngL_len]; simp; omega)
  have e2 : srtU (((rngL 0 m).map fun d => match d with | .int j => j * p % q | _ => 0).reverse ++ []) = mks p q m := by
    rw [rng_map (fun j => j * p % q)]
    exact srtU_congr fun j => by simp
  rw [List.append_nil] at e2
  simp [b_places, ir, e]
  rw [e2]
theorem b_marks_ok (c : CallT) {p q : Int} (q1 : 1 ≤ q) (q2 : q ≤ 10000) (m : Nat) (L : List Int) (hL : L.length ≤ 500) (h1 : c 76 [.tup [.int p, .int q], .int m] S = .ok .non S) (h2 : c 56 [.tup [.int p, .int q], .int m] S = .ok (.lst (L.map .int)) S)
    (h3 : ∀ g ∈ L, c 6 [.int g, .int q] S = .ok (fqD g q) S) : b_marks c [some (.tup [.int p, .int q]), some (.int m), none] S = some (.ret (.tup (L.map fun g => fqD g q)), S) := by
  have l := fun (s : Sl) (g0 : s[0]? = some (some (.tup [.int p, .int q]))) (g2 : 2 < s.length) => lc_ints (S := S) (s := s) (i := 2) (e := w_marks_0 c) (fun g => fqD g q) L (by omega) (fun g hg => by
    have e := h3 g hg
    simp [w_marks_0, g0, g2, e])
  simp [b_marks, h1, h2, sSeq, l, oTupleOf, itemsLT, itemsL]
theorem c_marks {p q : Int} (r : IsStep p q) (m : Nat) (h1 : 1 ≤ m) (h2 : m ≤ 500) : callN Lib (n + 4) 77 [.tup [.int p, .int q], .int m] S = .ok (.tup ((mks p q m).map fun g => fqD g q)) S := by
  rw [callN_eq (d := f_marks) rfl]
  have q1 := r.q1; have q2 := r.q2
  exact run_keep rfl (b_marks_ok _ r.q1 r.q2 m _ (Nat.le_trans mks_len h2) (c_check_marks r m h1 h2) (c_places (n := n + 2) r m h2) fun g hg => c_fq (n := n + 1) g q (by omega) (by omega))
theorem cut1 (x : D) (xs : List D) : oCut (.lst (x :: xs)) (some 1) none S = some (.lst xs, S) := by
  unfold oCut cutD
  have e1 : (some (1 : Int)) = some ((1 : Nat) : Int) := rfl
  simp only [e1, HT.sIx_nat, HT.sIx_none, List.length_cons]
  rw [Nat.min_eq_left (by omega)]
  simp
theorem oAdd_lst {a b : List D} (h : a.length + b.length ≤ 16777216) : oAdd (.lst a) (.lst b) S = some (.lst (a ++ b), S) := by
  have : sizeLine = 16777216 := PySem.sizeLine_eq
  unfold oAdd
  simp only
  rw [if_pos (by omega)]
theorem b_arcs_ok (c : CallT) {p q : Int} (q1 : 1 ≤ q) (q2 : q ≤ 10000) (m : Nat) (L : List Int) (hL : (0 :: L).length ≤ 500) (h1 : c 76 [.tup [.int p, .int q], .int m] S = .ok .non S) (h2 : c 56 [.tup [.int p, .int q], .int m] S = .ok (.lst ((0 :: L).map .int)) S)
    (h3 : ∀ g : Int, c 6 [.int g, .int q] S = .ok (fqD g q) S) : b_arcs c [some (.tup [.int p, .int q]), some (.int m), none, none, none, none, none, none] S = some (.ret (.tup ((srtU (gapL (0 :: L) q)).map fun g => fqD g q)), S) := by
  have hL' : L.length + 1 ≤ 500 := by simpa using hL
  have ct := fun S => cut1 (S := S) (.int 0) (L.map D.int)
  have ad := fun S => oAdd_lst (S := S) (a := L.map D.int) (b := [D.int q]) (by simp; omega)
  have iz : iZip [.lst (.int 0 :: L.map D.int), .lst (L.map D.int ++ [.int q])] = some (List.zipWith (fun a b => D.tup [.int a, .int b]) (0 :: L) (L ++ [q])) := by
    have : L.map D.int ++ [.int q] = (L ++ [q]).map D.int := by simp
    rw [this, show D.int 0 :: L.map D.int = (0 :: L).map D.int from rfl]
    show some (List.zipWith (fun d e => D.tup [d, e]) _ _) = _
    rw [List.zipWith_map]
  have hz : (List.zipWith (fun a b => D.tup [.int a, .int b]) (0 :: L) (L ++ [q])).length ≤ 500 := by
    rw [List.length_zipWith]
    simp
    omega
  have sc : ∀ s : Sl, 6 < s.length → scL (.tp [.nm 5, .nm 6]) (eC (.bl true)) (w_arcs_0 c) s (List.zipWith (fun a b => D.tup [.int a, .int b]) (0 :: L) (L ++ [q])) [] S = .ok ((gapL (0 :: L) q).reverse ++ []) S := fun s g6 => by
    rw [scL_map (fun d => match d with | .tup [.int a, .int b] => b - a | _ => 0) _ _ (fun d hd => ?_) (by simp at hz ⊢; omega)]
    · congr 3
      rw [List.map_zipWith]
      rfl
    · obtain ⟨a, b, rfl⟩ : ∃ a b, d = .tup [.int a, .int b] := by
        obtain ⟨i, hi, e⟩ := List.mem_iff_getElem.mp hd
        rw [List.getElem_zipWith] at e
        exact ⟨_, _, e.symm⟩
      refine ⟨(s.set 5 (some (.int a))).set 6 (some (.int b)), by simp, rfl, ?_⟩
      have h5 : 5 < s.length := by omega
      simp [w_arcs_0, g6, h5]
  have e2 : srtU ((gapL (0 :: L) q).reverse ++ []) = srtU (gapL (0 :: L) q) := srtU_congr fun j => by simp
  have l2 := fun (s : Sl) (g0 : s[0]? = some (some (.tup [.int p, .int q]))) (g2 : 7 < s.length) => lc_ints (S := S) (s := s) (i := 7) (e := w_arcs_1 c) (fun g => fqD g q) (srtU (gapL (0 :: L) q)) (by
    have := len_srtU (xs := gapL (0 :: L) q)
    have := gapL_len (L := 0 :: L) (q := q)
    omega) (fun g hg => by
    have e := h3 g
    simp [w_arcs_1, g0, g2, e])
  rw [← e2] at l2 ⊢
  generalize (gapL (0 :: L) q).reverse ++ [] = G at sc l2
  generalize List.zipWith (fun a b => D.tup [.int a, .int b]) (0 :: L) (L ++ [q]) = Z at iz sc
  simp only [List.map_cons] at h2
  have ix0 : ∀ S, oIx (.lst (D.int 0 :: L.map D.int)) (.int 0) S = some (.int 0, S) := fun S => oIx_lst (n := 0) rfl
  simp [b_arcs, h1, h2, sSeq, eCutL, ePart, partK, ct, ix0, ad, iz, sc, l2, oTupleOf, itemsLT, itemsL]
theorem c_arcs {p q : Int} (r : IsStep p q) (m : Nat) (h1 : 1 ≤ m) (h2 : m ≤ 500) : callN Lib (n + 4) 78 [.tup [.int p, .int q], .int m] S = .ok (.tup ((srtU (gapL (mks p q m) q)).map fun g => fqD g q)) S := by
  rw [callN_eq (d := f_arcs) rfl]
  have q1 := r.q1; have q2 := r.q2
  obtain ⟨L, e⟩ := mks_head (p := p) (q := q) (n := m) (by omega) (by omega)
  have hp := c_places (n := n + 2) (S := S) r m h2
  rw [e] at hp ⊢
  exact run_keep rfl (b_arcs_ok _ r.q1 r.q2 m L (by rw [← e]; exact Nat.le_trans mks_len h2) (c_check_marks r m h1 h2) hp fun g => c_fq (n := n + 1) g q (by omega) (by omega))
end
end Q
namespace Q
theorem gapL_one (x q : Int) : gapL [x] q = [q - x] := rfl
theorem gapL_two (x y : Int) (L : List Int) (q : Int) : gapL (x :: y :: L) q = (y - x) :: gapL (y :: L) q := rfl
theorem gapL_sum (q : Int) : ∀ (x : Int) (L : List Int), (gapL (x :: L) q).sum = q - x
  | x, [] => by simp [gapL_one]
  | x, y :: L => by
    rw [gapL_two, List.sum_cons, gapL_sum q y L]
    omega
def Gap (L : List Int) (q d : Int) : Prop := ∃ x, x ∈ L ∧ (x + d ∈ L ∨ x + d = q) ∧ 0 < d ∧ ∀ m ∈ L, ¬ (x < m ∧ m < x + d)
theorem mem_gapL {q d : Int} : ∀ {L : List Int}, L ≠ [] → L.Pairwise (· < ·) → (∀ m ∈ L, m < q) → (d ∈ gapL L q ↔ Gap L q d)
  | [], h, _, _ => absurd rfl h
  | [x], _, _, hb => by
    have := hb x (by simp)
    rw [gapL_one, List.mem_singleton]
    constructor
    · rintro rfl
      exact ⟨x, by simp, .inr (by omega), by omega, fun m hm => by rw [List.mem_singleton.mp hm]; omega⟩
    · rintro ⟨y, hy, h1, h2, _⟩
      rw [List.mem_singleton.mp hy] at h1
      rcases h1 with h1 | h1
      · have := List.mem_singleton.mp h1
        omega
      · omega
  | x :: y :: L, _, ha, hb => by
    obtain ⟨a1, a2⟩ := List.pairwise_cons.mp ha
    have hxy := a1 y (by simp)
    have ih := mem_gapL (q := q) (d := d) (L := y :: L) (by simp) a2 (fun m hm => hb m (List.mem_cons_of_mem _ hm))
    rw [gapL_two, List.mem_cons, ih]
    constructor
    · rintro (rfl | ⟨z, hz, h1, h2, h3⟩)
      · refine ⟨x, by simp, .inl (by rw [show x + (y - x) = y by omega]; simp), by omega, fun m hm => ?_⟩
        rcases List.mem_cons.mp hm with e | hm
        · omega
        · rcases List.mem_cons.mp hm with e | hm
          · omega
          · have := (List.pairwise_cons.mp a2).1 m hm
            omega
      · refine ⟨z, List.mem_cons_of_mem _ hz, h1.imp (List.mem_cons_of_mem _) id, h2, fun m hm => ?_⟩
        rcases List.mem_cons.mp hm with e | hm
        · have := a1 z hz
          omega
        · exact h3 m hm
    · rintro ⟨z, hz, h1, h2, h3⟩
      rcases List.mem_cons.mp hz with e | hz
      · subst e
        left
        have h4 := h3 y (by simp)
        rcases h1 with h1 | h1
        · rcases List.mem_cons.mp h1 with e | h1
          · omega
          · rcases List.mem_cons.mp h1 with e | h1
            · omega
            · have := (List.pairwise_cons.mp a2).1 _ h1
              omega
        · have := hb y (by simp)
          omega
      · right
        refine ⟨z, hz, ?_, h2, fun m hm => h3 m (List.mem_cons_of_mem _ hm)⟩
        rcases h1 with h1 | h1
        · rcases List.mem_cons.mp h1 with e | h1
          · have := a1 z hz
            omega
          · exact .inl h1
        · exact .inr h1
theorem mks_ne {p q : Int} {m : Nat} (hq : 0 < q) (hm : 0 < m) : mks p q m ≠ [] := by
  obtain ⟨L, e⟩ := mks_head (p := p) (q := q) hq hm
  rw [e]
  simp
theorem mem_gaps {p q d : Int} {m : Nat} (hq : 0 < q) (hm : 0 < m) : d ∈ gapL (mks p q m) q ↔ Gap (mks p q m) q d := mem_gapL (mks_ne hq hm) mks_asc fun j hj => (mks_rng hq hj).2
theorem mks_all {p q : Int} {m : Nat} (hq : 0 < q) (hm : q ≤ m) : mks p q m = mks p q q.toNat := srtU_congr fun j => by
  have qm : q.toNat ≤ m := by omega
  simp only [List.mem_map, List.mem_range]
  constructor
  · rintro ⟨i, hi, rfl⟩
    refine ⟨(i % q.toNat), Nat.mod_lt _ (by omega), ?_⟩
    have e : (((i % q.toNat : Nat) : Int)) = (i : Int) % q := by
      rw [Int.natCast_emod, Int.toNat_of_nonneg (by omega)]
    rw [e, Int.mul_emod, Int.emod_emod_of_dvd _ (Int.dvd_refl q), ← Int.mul_emod]
  · rintro ⟨i, hi, rfl⟩
    exact ⟨i, Nat.lt_of_lt_of_le hi qm, rfl⟩
theorem mks_one {p q : Int} (hq : 0 < q) : mks p q 1 = [0] := by
  unfold mks
  simp [srtU, insU]
theorem three_kinds {p q : Int} (r : IsStep p q) {m : Nat} (hm : 0 < m) : ∃ a b : Int, 0 < a ∧ 0 < b ∧ ∀ d ∈ gapL (mks p q m) q, d = a ∨ d = b ∨ d = a + b := by
  obtain ⟨q1, q2, p0, p1, pq⟩ := r
  -- as many as the denominator at most
  suffices H : ∀ m : Nat, 0 < m → (m : Int) ≤ q → ∃ a b : Int, 0 < a ∧ 0 < b ∧ ∀ d ∈ gapL (mks p q m) q, d = a ∨ d = b ∨ d = a + b by
    by_cases h : q ≤ m
    · rw [mks_all (by omega) h]
      exact H _ (by omega) (by omega)
    · exact H m hm (by omega)
  intro m hm hmq
  by_cases h1 : m = 1
  · subst h1
    rw [mks_one (by omega)]
    refine ⟨q, q, by omega, by omega, fun d hd => ?_⟩
    rw [gapL_one, List.mem_singleton] at hd
    omega
  · obtain ⟨pn, rfl⟩ := Int.eq_ofNat_of_zero_le p0
    obtain ⟨qn, rfl⟩ := Int.eq_ofNat_of_zero_le (show 0 ≤ q by omega)
    have hc : Nat.gcd pn qn = 1 := by simpa using pq
    obtain ⟨a, b, a0, b0, G1, G2⟩ := gaps3 hc (n := m) (by omega) (by omega)
    refine ⟨a, b, by omega, by omega, fun d hd => ?_⟩
    obtain ⟨x, hx, h2, h3, h4⟩ := (mem_gaps (by omega) hm).mp hd
    obtain ⟨i, hi, rfl⟩ := mem_mks.mp hx
    have cast : ∀ i : Nat, (i : Int) * (pn : Int) % (qn : Int) = ((rr pn qn i : Nat) : Int) := fun i => by unfold rr; push_cast; rfl
    have all : ∀ j : Nat, j < m → ¬ ((rr pn qn i : Int) < rr pn qn j ∧ (rr pn qn j : Int) < rr pn qn i + d) := fun j hj => by
      have := h4 _ (mem_mks.mpr ⟨j, hj, rfl⟩)
      rw [cast, cast] at this
      exact this
    rw [cast] at h2
    rcases h2 with h2 | h2
    · obtain ⟨k, hk, e⟩ := mem_mks.mp h2
      rw [cast] at e
      have := G1 i k hi hk (by omega) (fun j hj => by have := all j hj; omega)
      omega
    · have := G2 i hi (fun j hj => by
        have := all j hj
        have := rr_lt (p := pn) (q := qn) (by omega) j
        omega)
      have := rr_lt (p := pn) (q := qn) (by omega) i
      omega
theorem few_of {xs : List Int} {a b : Int} (ha : 0 < a) (hb : 0 < b) (hs : xs.Pairwise (· < ·)) (h : ∀ d ∈ xs, d = a ∨ d = b ∨ d = a + b) : xs.length ≤ 3 ∧ (xs.length = 3 → ∃ u v, xs = [u, v, u + v]) := by
  match xs, hs, h with
  | [], _, _ => simp
  | [_], _, _ => simp
  | [_, _], _, _ => simp
  | [u, v, w], hs, h =>
    refine ⟨by simp, fun _ => ⟨u, v, ?_⟩⟩
    simp only [List.pairwise_cons, List.mem_cons, List.not_mem_nil, or_false, forall_eq_or_imp, forall_eq] at hs h
    have : w = u + v := by omega
    rw [this]
  | u :: v :: w :: z :: L, hs, h =>
    exfalso
    simp only [List.pairwise_cons, List.mem_cons, forall_eq_or_imp] at hs h
    omega
theorem other_step {p q : Int} (r : IsStep p q) : IsStep (q - p) q := by
  obtain ⟨q1, q2, p0, p1, pq⟩ := r
  refine ⟨q1, q2, by omega, by omega, ?_⟩
  have a : ((Int.gcd (q - p) q : Nat) : Int) ∣ (Int.gcd p q : Nat) := by
    refine Int.dvd_coe_gcd ?_ (Int.gcd_dvd_right ..)
    have h1 : ((Int.gcd (q - p) q : Nat) : Int) ∣ q - (q - p) := Int.dvd_sub (Int.gcd_dvd_right ..) (Int.gcd_dvd_left ..)
    have e : q - (q - p) = p := by omega
    rw [e] at h1
    exact h1
  rw [pq] at a
  have := Int.le_of_dvd (by decide) a
  have : 0 < Int.gcd (q - p) q := Int.gcd_pos_of_ne_zero_right _ (by omega)
  omega
theorem mks_other {p q j : Int} {m : Nat} (hq : 0 < q) (hm : 0 < m) (h0 : 0 ≤ j) (h1 : j ≤ q) : (j ∈ mks (q - p) q m ∨ j = q) ↔ (q - j ∈ mks p q m ∨ q - j = q) := by
  have e : ∀ i : Nat, (i : Int) * (q - p) % q = if (i : Int) * p % q = 0 then 0 else q - (i : Int) * p % q := fun i => by
    have b := Int.emod_nonneg ((i : Int) * p) (show q ≠ 0 by omega)
    have b2 := Int.emod_lt_of_pos ((i : Int) * p) hq
    have d := Int.emod_add_mul_ediv ((i : Int) * p) q
    rw [Int.mul_sub]
    generalize (i : Int) * p % q = rr at *
    generalize (i : Int) * p / q = k at *
    rw [← d]
    split
    · rename_i hz
      rw [hz, show (i : Int) * q - (0 + q * k) = 0 + q * (i - k) by rw [Int.mul_sub, Int.mul_comm q i]; omega, Int.add_mul_emod_self_left]
      rfl
    · rw [show (i : Int) * q - (rr + q * k) = (q - rr) + q * (i - k - 1) by rw [Int.mul_sub, Int.mul_sub, Int.mul_comm q i]; omega, Int.add_mul_emod_self_left]
      exact Int.emod_eq_of_lt (by omega) (by omega)
  constructor
  · rintro (h | h)
    · obtain ⟨i, hi, rfl⟩ := mem_mks.mp h
      rw [e i]
      split
      · right; omega
      · left
        exact mem_mks.mpr ⟨i, hi, by omega⟩
    · left
      exact mem_mks.mpr ⟨0, hm, by simp [h]⟩
  · rintro (h | h)
    · obtain ⟨i, hi, h2⟩ := mem_mks.mp h
      by_cases hz : (i : Int) * p % q = 0
      · right; omega
      · left
        exact mem_mks.mpr ⟨i, hi, by rw [e i, if_neg hz]; omega⟩
    · left
      exact mem_mks.mpr ⟨0, hm, by simp; omega⟩
theorem gap_other {p q d : Int} {m : Nat} (hq : 0 < q) (hm : 0 < m) (h : Gap (mks p q m) q d) : Gap (mks (q - p) q m) q d := by
  obtain ⟨x, hx, h1, h2, h3⟩ := h
  have bx := mks_rng hq hx
  have bd : x + d ≤ q := by
    rcases h1 with h1 | h1
    · have := mks_rng hq h1; omega
    · omega
  have O := fun j a b => mks_other (p := p) (q := q) (j := j) (m := m) hq hm a b
  refine ⟨q - (x + d), ?_, ?_, h2, fun y hy hc => ?_⟩
  · have := (O (q - (x + d)) (by omega) (by omega)).mpr (by rw [show q - (q - (x + d)) = x + d by omega]; exact h1)
    exact this.resolve_right (by omega)
  · rw [show q - (x + d) + d = q - x by omega]
    exact (O (q - x) (by omega) (by omega)).mpr (by rw [show q - (q - x) = x by omega]; exact .inl hx)
  · have b := mks_rng hq hy
    rcases (O y b.1 (by omega)).mp (.inl hy) with z | z
    · exact h3 _ z (by omega)
    · omega
theorem gaps_other {p q : Int} {m : Nat} (hq : 0 < q) (hm : 0 < m) : srtU (gapL (mks (q - p) q m) q) = srtU (gapL (mks p q m) q) := srtU_congr fun d => by
  rw [mem_gaps hq hm, mem_gaps hq hm]
  constructor
  · intro h
    have := gap_other hq hm h
    rw [show q - (q - p) = p by omega] at this
    exact this
  · exact gap_other hq hm
theorem len_sub {α : Type} [BEq α] [LawfulBEq α] : ∀ {xs ys : List α}, xs.Nodup → (∀ x ∈ xs, x ∈ ys) → xs.length ≤ ys.length
  | [], _, _, _ => by simp
  | x :: xs, ys, hn, h => by
    obtain ⟨h1, h2⟩ := List.nodup_cons.mp hn
    have hx := h x (by simp)
    have := len_sub (xs := xs) (ys := ys.erase x) h2 fun z hz => (List.mem_erase_of_ne fun e => h1 (by rw [← e]; exact hz)).mpr (h z (List.mem_cons_of_mem _ hz))
    rw [List.length_erase_of_mem hx] at this
    have := List.length_pos_of_mem hx
    simp; omega
theorem asc_nodup {xs : List Int} (h : xs.Pairwise (· < ·)) : xs.Nodup := h.imp fun {a b} z e => by omega
theorem len_other_le {p q : Int} {m : Nat} (hq : 0 < q) (hm : 0 < m) : (mks p q m).length ≤ (mks (q - p) q m).length := by
  have e : ((mks p q m).map fun j => if j = 0 then 0 else q - j).length = (mks p q m).length := List.length_map _
  rw [← e]
  refine len_sub ?_ fun y hy => ?_
  · unfold List.Nodup
    rw [List.pairwise_map]
    refine List.Pairwise.imp_of_mem (fun {a b} ha hb hlt => ?_) (mks_asc (p := p) (q := q) (n := m))
    have := mks_rng hq ha
    have := mks_rng hq hb
    split <;> split <;> omega
  · obtain ⟨j, hj, rfl⟩ := List.mem_map.mp hy
    have b := mks_rng hq hj
    split
    · exact mem_mks.mpr ⟨0, hm, by simp⟩
    · have := (mks_other (p := p) (q := q) (j := q - j) (m := m) hq hm (by omega) (by omega)).mpr (.inl (by rw [show q - (q - j) = j by omega]; exact hj))
      exact this.resolve_right (by omega)
theorem len_other {p q : Int} {m : Nat} (hq : 0 < q) (hm : 0 < m) : (mks (q - p) q m).length = (mks p q m).length := by
  refine Nat.le_antisymm ?_ (len_other_le hq hm)
  have := len_other_le (p := q - p) (q := q) (m := m) hq hm
  rw [show q - (q - p) = p by omega] at this
  exact this
end Q
namespace Q
open PySem L2
section
variable {S : Store} {v w d : D} {u : Lv} {kvs : List (Key × D)}
theorem newO_at : (S.newO u).O[S.O.length]? = some u := by unfold Store.newO; simp
theorem dkvs_new : dkvs (S.newO (.dct kvs)) (.obj S.O.length) = some kvs := by unfold dkvs; simp only [newO_at]
theorem newO_put {x : Lv} : (S.newO u).putO S.O.length x = S.newO x := by unfold Store.newO Store.putO; simp
theorem putO_new {j : Key} {i : D} (h : keyD i = some j) (hl : kvs.length ≤ 1000000) (hf : v.flat = true) : putO (.obj S.O.length) i v (S.newO (.dct kvs)) = some (S.newO (.dct (putG kvs j v))) := by
  have : kvs.length < sizeLine := by rw [PySem.sizeLine_eq]; omega
  unfold putO
  simp only [newO_at, h, hf, this, decide_true, Bool.and_true, if_true, newO_put]
theorem newO_cut : (S.newO u).cutO S.O.length = S := by unfold Store.newO Store.cutO; simp
theorem newO_take : (S.newO u).O.take S.O.length = S.O := by unfold Store.newO; simp
theorem tLoc_new {b : TSt} {s : Sl} (h : b s S = some (.ret d, S.newO u)) (hf : d.flat = true) (hO : S.O.all Lv.still = true) : tLoc b s S = some (.ret d, S) := by
  unfold tLoc
  simp only [h, newO_take, newO_cut, hf, hO, Bool.and_self, if_true]
@[simp] theorem tPutK_eq {o i v : TE} {s : Sl} : tPutK o i v s S = onE (v s S) s fun x S1 => onE (o s S1) s fun y S2 => onE (i s S2) s fun z S3 => match putO y z x S3 with | some S4 => some (.nx s, S4) | none => none := (rfl)
end
def addK {κ : Type} [DecidableEq κ] (ks : List κ) (x : κ) : List κ := if x ∈ ks then ks else ks ++ [x]
section
variable {κ β : Type} [DecidableEq κ] {kvs : List (κ × β)} {ks : List κ} {x y : κ} {v : β}
theorem putG_keys : (putG kvs x v).map (·.1) = addK (kvs.map (·.1)) x := by
  unfold putG addK
  have e : (kvs.any fun kv => decide (kv.1 = x)) = decide (x ∈ kvs.map (·.1)) := by
    rw [Bool.eq_iff_iff]
    simp only [List.any_eq_true, decide_eq_true_eq, List.mem_map]
  rw [e]
  by_cases h : x ∈ kvs.map (·.1)
  · rw [if_pos (decide_eq_true h), if_pos h, List.map_map]
    refine List.map_congr_left fun p _ => ?_
    show (if p.1 = x then (p.1, v) else p).1 = p.1
    split <;> rfl
  · rw [if_neg (by rw [decide_eq_false h]; decide), if_neg h]
    simp
theorem mem_addK : y ∈ addK ks x ↔ y ∈ ks ∨ y = x := by
  unfold addK
  split
  · constructor
    · exact .inl
    · rintro (h | rfl)
      · exact h
      · assumption
  · simp
theorem nodup_addK (h : ks.Nodup) : (addK ks x).Nodup := by
  unfold addK
  split
  · exact h
  · rw [List.nodup_append]
    refine ⟨h, by simp, ?_⟩
    intro a ha b hb e
    rw [List.mem_singleton.mp hb] at e
    subst e
    contradiction
theorem len_addK : (addK ks x).length ≤ ks.length + 1 := by
  unfold addK
  split <;> simp
end
theorem addK_inl (ks : List Int) (x : Int) : addK (ks.map fun i => (.inl i : Key)) (.inl x) = (addK ks x).map fun i => (.inl i : Key) := by
  have e : ((.inl x : Key) ∈ ks.map fun i => (.inl i : Key)) ↔ x ∈ ks := by
    rw [List.mem_map]
    constructor
    · rintro ⟨i, hi, e⟩
      cases e
      exact hi
    · intro h
      exact ⟨x, h, rfl⟩
  unfold addK
  by_cases h : x ∈ ks
  · rw [if_pos h, if_pos (e.mpr h)]
  · rw [if_neg h, if_neg fun z => h (e.mp z)]
    simp
def keysF (ks xs : List Int) : List Int := xs.foldl addK ks
theorem keysF_nodup : ∀ (xs ks : List Int), ks.Nodup → (keysF ks xs).Nodup
  | [], ks, h => h
  | x :: xs, ks, h => keysF_nodup xs (addK ks x) (nodup_addK h)
theorem mem_keysF {y : Int} : ∀ (xs ks : List Int), y ∈ keysF ks xs ↔ y ∈ ks ∨ y ∈ xs
  | [], ks => by simp [keysF]
  | x :: xs, ks => by
    show y ∈ keysF (addK ks x) xs ↔ _
    rw [mem_keysF xs (addK ks x), mem_addK, List.mem_cons, or_assoc]
theorem len_keysF : ∀ (xs ks : List Int), (keysF ks xs).length ≤ ks.length + xs.length
  | [], ks => by simp [keysF]
  | x :: xs, ks => by
    have := len_keysF xs (addK ks x)
    have := len_addK (ks := ks) (x := x)
    show (keysF (addK ks x) xs).length ≤ _
    simp only [List.length_cons]
    omega
def trues (xs : List Int) : List (Key × D) := xs.map fun x => (.inl x, .bl true)
theorem merge_keys : ∀ (xs : List Int) (kvs : List (Key × D)) (ks : List Int), kvs.map (·.1) = ks.map (fun i => (.inl i : Key)) → (mergeG kvs (trues xs)).map (·.1) = (keysF ks xs).map fun i => (.inl i : Key)
  | [], kvs, ks, h => h
  | x :: xs, kvs, ks, h => merge_keys xs (putG kvs (.inl x) (.bl true)) (addK ks x) (by rw [putG_keys, h, addK_inl])
theorem keyV_keys {kvs : List (Key × D)} {ks : List Int} (h : kvs.map (·.1) = ks.map (fun i => (.inl i : Key))) : (kvs.map fun kv => keyV kv.1) = ks.map .int := by
  have : (kvs.map fun kv => keyV kv.1) = (kvs.map (·.1)).map keyV := by rw [List.map_map]; rfl
  rw [this, h, List.map_map]
  rfl
theorem srt_mks {ns L : List Int} (hn : ns.Nodup) (h : ∀ j, j ∈ ns ↔ j ∈ L) (hL : L.Pairwise (· < ·)) : srt ns = L := by
  have p : (srt ns).Perm ns := List.mergeSort_perm _ _
  have s : (srt ns).Pairwise (fun a b => decide (a ≤ b) = true) := List.pairwise_mergeSort (fun a b c h1 h2 => by simp at *; omega) (fun a b => by simp; omega) ns
  have nd : (srt ns).Nodup := p.nodup_iff.mpr hn
  refine asc_uniq ?_ hL fun j => by rw [p.mem_iff, h]
  have both : (srt ns).Pairwise (fun a b => decide (a ≤ b) = true ∧ a ≠ b) := List.Pairwise.and s nd
  exact both.imp fun {a b} ⟨h1, h2⟩ => by
    have := of_decide_eq_true h1
    omega
section
variable {n : Nat} {S : Store}
theorem sorted_keys {ks L : List Int} (hn : ks.Nodup) (h : ∀ j, j ∈ ks ↔ j ∈ L) (hL : L.Pairwise (· < ·)) : oSortedI [.lst (ks.map .int)] S = some (.lst (L.map .int), S) := by
  have e : intsOf (ks.map D.int) = some ks := by
    clear hn h
    induction ks with
    | nil => rfl
    | cons k ks ih => simp [intsOf, ih]
  simp [oSortedI, itemsL, sortD, e, srt_mks hn h hL]
theorem for_upto {i : Nat} {b : TSt} (F : Nat → Store) (sl : Nat → Option D → Sl) (hp : ∀ t d o, (sl t o).set i (some d) = sl t (some d)) (N : Nat) : ∀ (ds : List D) (t : Nat) (o : Option D), t + ds.length ≤ N → (∀ t d, t < N → d ∈ ds → b (sl t (some d)) (F t) = some (.nx (sl (t + 1) (some d)), F (t + 1))) →
    ∃ u, forL (.nm i) b ds (sl t o) (F t) = some (.nx (sl (t + ds.length) u), F (t + ds.length))
  | [], t, o, _, _ => ⟨o, rfl⟩
  | d :: ds, t, o, hN, h => by
    simp only [List.length_cons] at hN ⊢
    obtain ⟨u, e⟩ := for_upto F sl hp N ds (t + 1) (some d) (by omega) fun t x ht hx => h t x ht (List.mem_cons_of_mem _ hx)
    refine ⟨u, ?_⟩
    unfold forL
    simp only [put_nm, hp, h t d (by omega) (by simp)]
    rw [e, show t + 1 + ds.length = t + (ds.length + 1) by omega]
def kys (p q : Int) (t : Nat) : List Int := keysF [0] ((List.range t).map fun (i : Nat) => ((i + 1 : Nat) : Int) * p % q)
def ksf (p q : Int) (t : Nat) : List (Key × D) := mergeG [(.inl 0, .bl true)] (trues ((List.range t).map fun (i : Nat) => ((i + 1 : Nat) : Int) * p % q))
theorem ksf_keys (p q : Int) (t : Nat) : (ksf p q t).map (·.1) = (kys p q t).map fun i => (.inl i : Key) := merge_keys _ _ _ rfl
theorem ksf_len (p q : Int) (t : Nat) : (ksf p q t).length ≤ t + 1 := by
  have h := congrArg List.length (ksf_keys p q t)
  rw [List.length_map, List.length_map] at h
  rw [h]
  have := len_keysF ((List.range t).map fun (i : Nat) => ((i + 1 : Nat) : Int) * p % q) [0]
  unfold kys
  simp at this ⊢
  omega
theorem ksf_succ (p q : Int) (t : Nat) : ksf p q (t + 1) = putG (ksf p q t) (.inl (((t + 1 : Nat) : Int) * p % q)) (.bl true) := by
  unfold ksf trues mergeG
  rw [List.range_succ, List.map_append, List.map_append, List.foldl_append]
  rfl
theorem mem_kys {p q j : Int} {t : Nat} : j ∈ kys p q t ↔ ∃ i : Nat, i < t + 1 ∧ j = (i : Int) * p % q := by
  unfold kys
  rw [mem_keysF, List.mem_singleton, List.mem_map]
  constructor
  · rintro (rfl | ⟨i, hi, rfl⟩)
    · exact ⟨0, by omega, by simp⟩
    · exact ⟨i + 1, by have := List.mem_range.mp hi; omega, rfl⟩
  · rintro ⟨i, hi, rfl⟩
    cases i with
    | zero => left; simp
    | succ i => right; exact ⟨i, List.mem_range.mpr (by omega), rfl⟩
theorem b_spots_ok (c : CallT) {p q : Int} (r : IsStep p q) (m : Nat) (h1 : 1 ≤ m) (h2 : m ≤ 500) (hO : S.O.all Lv.still = true) : b_law_spots c [some (.tup [.int p, .int q]), some (.int m), none, none, none] S = some (.ret (.lst ((mks p q m).map .int)), S) := by
  obtain ⟨q1, q2, p0, p1, pq⟩ := r
  obtain ⟨k, rfl⟩ : ∃ k, m = k + 1 := ⟨m - 1, by omega⟩
  unfold b_law_spots
  refine tLoc_new (u := .dct (ksf p q k)) ?_ (flats_ints _) hO
  have ir : iRng1 [.int (((k + 1 : Nat) : Int) - 1)] = some (rngL 0 k) := by
    have : ((k + 1 : Nat) : Int) - 1 = (k : Int) := by omega
    rw [this]
    exact iRng1_nat (m := k) (by omega)
  have dm : ∀ s : Sl, eDctM [eC (.int 0), eC (.bl true)] s S = .ok (.obj S.O.length) (S.newO (.dct (ksf p q 0))) := fun s => by rfl
  obtain ⟨u, fe⟩ := for_upto (i := 4) (b := w_law_spots_0 c) (fun t => S.newO (.dct (ksf p q t))) (fun t o => [some (.tup [.int p, .int q]), some (.int ((k + 1 : Nat) : Int)), some (.obj S.O.length), some (.int ((t : Int) * p % q)), o]) (fun t d o => by simp) k (rngL 0 k) 0 none (by rw [rngL_len]; omega) (fun t d ht _ => by
    have md := fun x S => oMod_pos (S := S) (i := x) (j := q) (by omega)
    have e : ((t : Int) * p % q + p) % q = ((t + 1 : Nat) : Int) * p % q := by
      have h : ((t + 1 : Nat) : Int) * p = (t : Int) * p + p := by
        rw [Int.natCast_add, Int.add_mul]
        omega
      rw [h, Int.emod_add_emod]
    have po := putO_new (S := S) (kvs := ksf p q t) (v := .bl true) (i := .int (((t + 1 : Nat) : Int) * p % q)) rfl (by have := ksf_len p q t; omega) rfl
    rw [← ksf_succ] at po
    generalize ((t + 1 : Nat) : Int) * p % q = x at e po ⊢
    simp only [w_law_spots_0, tSeq_eq, tSet_eq, e2_eq, eN_eq, eArgs_cons, eArgs_nil, eV_eq, eC_eq, tPutK_eq]
    simp [md, e, po])
  simp only [rngL_len, Nat.zero_add, Int.natCast_zero, Int.zero_mul, Int.zero_emod] at fe
  have dk := dkvs_new (S := S) (kvs := ksf p q k)
  have kv := keyV_keys (ksf_keys p q k)
  have so := fun S => sorted_keys (S := S) (ks := kys p q k) (L := mks p q (k + 1)) (keysF_nodup _ _ (by simp)) (fun j => by rw [mem_kys, mem_mks]) mks_asc
  generalize ((k + 1 : Nat) : Int) = M at ir fe ⊢
  simp only [tSeq_eq, tSet_eq, eTup_eq, eArgs_cons, eArgs_nil, dm, eC_eq, bind_ok, put_tp, puts_cons, puts_nil, put_nm, onE_ok', tFor_eq, sN_eq, e2_eq, eV_eq]
  simp [ir, fe, oLstO, dk, kv, so]
theorem c_spots {p q : Int} (r : IsStep p q) (m : Nat) (h1 : 1 ≤ m) (h2 : m ≤ 500) (hO : S.O.all Lv.still = true) : callN Lib (n + 1) 352 [.tup [.int p, .int q], .int m] S = .ok (.lst ((mks p q m).map .int)) S := by
  rw [callN_eq (d := f_law_spots) rfl]
  exact run_keep rfl (b_spots_ok _ r m h1 h2 hO)
theorem b_far_ok (c : CallT) (q : Int) (L : List Int) (hL : (0 :: L).length ≤ 500) : b_law_far c [some (.lst ((0 :: L).map .int)), some (.int q), none, none] S = some (.ret (.lst ((gapL (0 :: L) q).map .int)), S) := by
  have hL' : L.length + 1 ≤ 500 := by simpa using hL
  have ct := fun S => cut1 (S := S) (.int 0) (L.map D.int)
  have ad := fun S => oAdd_lst (S := S) (a := L.map D.int) (b := [D.int q]) (by simp; omega)
  have iz : iZip [.lst (.int 0 :: L.map D.int), .lst (L.map D.int ++ [.int q])] = some (List.zipWith (fun a b => D.tup [.int a, .int b]) (0 :: L) (L ++ [q])) := by
    have : L.map D.int ++ [.int q] = (L ++ [q]).map D.int := by simp
    rw [this, show D.int 0 :: L.map D.int = (0 :: L).map D.int from rfl]
    show some (List.zipWith (fun d e => D.tup [d, e]) _ _) = _
    rw [List.zipWith_map]
  have hz : (List.zipWith (fun a b => D.tup [.int a, .int b]) (0 :: L) (L ++ [q])).length ≤ 500 := by
    rw [List.length_zipWith]
    simp
    omega
  have lc : ∀ s : Sl, 3 < s.length → lcL (.tp [.nm 2, .nm 3]) (eC (.bl true)) (w_law_far_0 c) s (List.zipWith (fun a b => D.tup [.int a, .int b]) (0 :: L) (L ++ [q])) [] S = .ok (.lst ((gapL (0 :: L) q).map .int)) S := fun s g6 => by
    rw [lc_mapP (fun d => match d with | .tup [.int a, .int b] => .int (b - a) | d => d) _ _ (fun d hd => ?_) (by rw [PySem.sizeLine_eq]; simp at hz ⊢; omega)]
    · rw [List.nil_append, List.map_zipWith]
      unfold gapL
      rw [List.map_zipWith]
      rfl
    · obtain ⟨a, b, rfl⟩ : ∃ a b, d = .tup [.int a, .int b] := by
        obtain ⟨i, hi, e⟩ := List.mem_iff_getElem.mp hd
        rw [List.getElem_zipWith] at e
        exact ⟨_, _, e.symm⟩
      refine ⟨(s.set 2 (some (.int a))).set 3 (some (.int b)), by simp, rfl, ?_⟩
      have h5 : 2 < s.length := by omega
      simp [w_law_far_0, g6, h5]
  generalize List.zipWith (fun a b => D.tup [.int a, .int b]) (0 :: L) (L ++ [q]) = Z at iz lc
  simp [b_law_far, sSeq, eCutL, ePart, partK, ct, ad, iz, lc]
theorem c_far {p q : Int} (hq : 0 < q) (m : Nat) (h1 : 1 ≤ m) (h2 : m ≤ 500) : callN Lib (n + 1) 353 [.lst ((mks p q m).map .int), .int q] S = .ok (.lst ((gapL (mks p q m) q).map .int)) S := by
  rw [callN_eq (d := f_law_far) rfl]
  obtain ⟨L, e⟩ := mks_head (p := p) (q := q) (n := m) hq (by omega)
  have hl := mks_len (p := p) (q := q) (n := m)
  rw [e] at hl ⊢
  exact run_keep rfl (b_far_ok _ q L (by omega))
end
end Q
namespace Q
open PySem L2
section
variable {n : Nat} {S : Store}
theorem prsD_trues (xs : List Int) : prsD (xs.map fun x => D.tup [.int x, .bl true]) = some (trues xs) := by
  induction xs with
  | nil => rfl
  | cons x xs ih => simp [prsD, ih, trues, keyD]
theorem lst_prs (xs : List Int) : oLstPrs [.lst (xs.map fun x => D.tup [.int x, .bl true])] S = some (.lst ((keysF [] xs).map .int), S) := by
  have k := keyV_keys (merge_keys xs [] [] rfl)
  simp only [oLstPrs, itemsL, prsD_trues, k]
theorem is_fqs (n : Nat) (S : Store) (G : List Int) (q : Int) (h : G.length ≤ 1000) : callN Lib (n + 3) 92 [.tup (G.map fun g => fqD g q), .tup (G.map fun g => fqD g q)] S = .ok (.bl true) S := c_is_tup _ (fun d hd => by
  obtain ⟨g, _, rfl⟩ := List.mem_map.mp hd
  exact c_is_tup _ (fun d hd => by
    simp only [List.mem_cons, List.not_mem_nil, or_false] at hd
    rcases hd with rfl | rfl
    · exact c_is_int _
    · exact c_is_int _) (by simp)) (by simpa using h)
theorem kinds_ok (s : Sl) (p q : Int) (F G : List Int) (g0 : s[0]? = some (some (.tup [.int p, .int q]))) (g3 : s[3]? = some (some (.lst (F.map .int)))) (g4 : s[4]? = some (some (.lst (G.map .int)))) (hs : F.sum = q) (h3 : G.length ≤ 3) (h4 : G.length = 3 → ∃ u v, G = [u, v, u + v]) :
    eOr (e2 oNe (eN oSum [eV 3]) (e2 oIx (eV 0) (eC (.int 1)))) (eOr (e2 oGt (eN oLen [eV 4]) (eC (.int 3))) (eAnd (e2 oEq (eN oLen [eV 4]) (eC (.int 3))) (e2 oNe (e2 oIx (eV 4) (eC (.int 2))) (e2 oAdd (e2 oIx (eV 4) (eC (.int 0))) (e2 oIx (eV 4) (eC (.int 1))))))) s S = .ok (.bl false) S := by
  have e : intsOf (F.map D.int) = some F := by
    clear hs g3
    induction F with
    | nil => rfl
    | cons k ks ih => simp [intsOf, ih]
  have os : oSum [.lst (F.map .int)] S = some (.int q, S) := by simp [oSum, intsL, itemsL, e, hs]
  have n3 : ¬ (3 : Int) < G.length := by omega
  by_cases h : G.length = 3
  · obtain ⟨u, v, rfl⟩ := h4 h
    have x2 : oIx (.lst [.int u, .int v, .int (u + v)]) (.int 2) S = some (.int (u + v), S) := oIx_lst (n := 2) rfl
    have x0 : oIx (.lst [.int u, .int v, .int (u + v)]) (.int 0) S = some (.int u, S) := oIx_lst (n := 0) rfl
    have x1 : oIx (.lst [.int u, .int v, .int (u + v)]) (.int 1) S = some (.int v, S) := oIx_lst (n := 1) rfl
    simp only [List.map_cons, List.map_nil] at g4
    simp [g0, g3, g4, os, x0, x1, x2]
  · have n4 : ¬ ((G.length : Nat) : Int) = 3 := by omega
    simp [g0, g3, g4, os, n3, n4]
theorem b_told_ok (c : CallT) {p q : Int} (m : Nat) (M F Z : List Int) (hM : M.length ≤ 500) (hF : F.length ≤ 500) (h1 : c 352 [.tup [.int p, .int q], .int m] S = .ok (.lst (M.map .int)) S) (h2 : c 353 [.lst (M.map .int), .int q] S = .ok (.lst (F.map .int)) S)
    (h3 : ∀ g : Int, c 110 [.int g, .int q] S = .ok (fqD g q) S) (h4 : c 77 [.tup [.int p, .int q], .int m] S = .ok (.tup (M.map fun g => fqD g q)) S) (h5 : c 78 [.tup [.int p, .int q], .int m] S = .ok (.tup ((srtU F).map fun g => fqD g q)) S)
    (h6 : c 92 [.lst [.tup (M.map fun g => fqD g q), .tup ((srtU F).map fun g => fqD g q)], .lst [.tup (M.map fun g => fqD g q), .tup ((srtU F).map fun g => fqD g q)]] S = .ok (.bl true) S) (h7 : fqD (q - p) q = .tup [.int (q - p), .int q])
    (h8 : c 78 [.tup [.int (q - p), .int q], .int m] S = .ok (.tup ((srtU F).map fun g => fqD g q)) S) (h9 : c 92 [.tup ((srtU F).map fun g => fqD g q), .tup ((srtU F).map fun g => fqD g q)] S = .ok (.bl true) S)
    (h10 : c 77 [.tup [.int (q - p), .int q], .int m] S = .ok (.tup (Z.map fun g => fqD g q)) S) (hZ : Z.length = M.length) (hs : F.sum = q) (hk : (srtU F).length ≤ 3) (hk2 : (srtU F).length = 3 → ∃ u v, srtU F = [u, v, u + v]) :
    b_law_told_right c [some (.tup [.int p, .int q]), some (.int m), none, none, none, none, none, none, none] S = some (.ret (.bl true), S) := by
  have l0 := fun (s : Sl) (g2 : 8 < s.length) => lc_ints (S := S) (s := s) (i := 8) (e := w_law_told_right_0 c) (fun g => .tup [.int g, .bl true]) F (by omega) (fun g hg => by simp [w_law_told_right_0, g2])
  have l1 := fun (s : Sl) (g0 : s[0]? = some (some (.tup [.int p, .int q]))) (g2 : 8 < s.length) => lc_ints (S := S) (s := s) (i := 8) (e := w_law_told_right_1 c) (fun g => fqD g q) M (by omega) (fun g hg => by
    have e := h3 g
    simp [w_law_told_right_1, g0, g2, e])
  have l2 := fun (s : Sl) (g0 : s[0]? = some (some (.tup [.int p, .int q]))) (g2 : 8 < s.length) => lc_ints (S := S) (s := s) (i := 8) (e := w_law_told_right_2 c) (fun g => fqD g q) (srtU F) (by omega) (fun g hg => by
    have e := h3 g
    simp [w_law_told_right_2, g0, g2, e])
  have pr := fun S => lst_prs (S := S) F
  have so := fun S => sorted_keys (S := S) (ks := keysF [] F) (L := srtU F) (keysF_nodup _ _ (by simp)) (fun j => by rw [mem_keysF, mem_srtU]; simp) asc_srtU
  have k := fun s g0 g3 g4 => kinds_ok (S := S) s p q F (srtU F) g0 g3 g4 hs hk hk2
  have h7' := h3 (q - p)
  rw [h7] at h7'
  have hZ' : (Z.map fun g => fqD g q).length = (M.map fun g => fqD g q).length := by simp [hZ]
  generalize (M.map fun g => fqD g q) = A at *
  generalize ((srtU F).map fun g => fqD g q) = B at *
  generalize (Z.map fun g => fqD g q) = Y at *
  generalize (srtU F).map D.int = C at *
  generalize (F.map fun x => D.tup [.int x, .bl true]) = U at *
  generalize (keysF [] F).map D.int = Vv at *
  unfold b_law_told_right
  generalize hK : eOr (e2 oNe (eN oSum [eV 3]) (e2 oIx (eV 0) (eC (.int 1)))) (eOr (e2 oGt (eN oLen [eV 4]) (eC (.int 3))) (eAnd (e2 oEq (eN oLen [eV 4]) (eC (.int 3))) (e2 oNe (e2 oIx (eV 4) (eC (.int 2))) (e2 oAdd (e2 oIx (eV 4) (eC (.int 0))) (e2 oIx (eV 4) (eC (.int 1))))))) = KK at k
  simp [h1, h2, sSeq, l0, l1, l2, pr, so, oTupleOf, itemsLT, itemsL, h4, h5, h6, k, h7', h8, h9, h10, hZ']
theorem c_told23 {p q : Int} (r : IsStep p q) (m : Nat) (h1 : 1 ≤ m) (h2 : m ≤ 500) (hO : S.O.all Lv.still = true) : callN Lib (n + 6) 354 [.tup [.int p, .int q], .int m] S = .ok (.bl true) S := by
  have q1 := r.q1; have q2 := r.q2
  have ro := other_step r
  obtain ⟨a, b, a0, b0, K⟩ := three_kinds r (m := m) h1
  obtain ⟨f1, f2⟩ := few_of (xs := srtU (gapL (mks p q m) q)) a0 b0 asc_srtU fun d hd => K d (mem_srtU.mp hd)
  have hM := Nat.le_trans (mks_len (p := p) (q := q) (n := m)) h2
  have hF := Nat.le_trans (gapL_len (L := mks p q m) (q := q)) hM
  have hG := Nat.le_trans (len_srtU (xs := gapL (mks p q m) q)) hF
  have a8 := c_arcs (n := n + 1) (S := S) ro m h1 h2
  rw [gaps_other (by omega) h1] at a8
  have sum : (gapL (mks p q m) q).sum = q := by
    obtain ⟨L, e⟩ := mks_head (p := p) (q := q) (n := m) (by omega) (by omega)
    rw [e, gapL_sum]
    omega
  rw [callN_eq (d := f_law_told_right) rfl]
  exact run_keep rfl (b_told_ok _ m (mks p q m) (gapL (mks p q m) q) (mks (q - p) q m) hM hF (c_spots (n := n + 4) r m h1 h2 hO) (c_far (n := n + 4) (by omega) m h1 h2) (fun g => c_lfrac (n := n + 3) g q (by omega) (by omega)) (c_marks (n := n + 1) r m h1 h2) (c_arcs (n := n + 1) r m h1 h2)
    (c_is_lst (n := n + 4) _ (fun d hd => by
      simp only [List.mem_cons, List.not_mem_nil, or_false] at hd
      rcases hd with rfl | rfl
      · exact is_fqs (n + 1) S _ q (by omega)
      · exact is_fqs (n + 1) S _ q (by omega)) (by simp)) (by unfold fqD; rw [lo_self ro.pq]) a8 (is_fqs (n + 2) S _ q (by omega)) (c_marks (n := n + 1) ro m h1 h2) (len_other (by omega) h1) sum f1 f2)
end
end Q
namespace Q
open PySem L2
theorem for_ix {p : Pat} {b : TSt} (I : Nat → Sl → Store → Prop) : ∀ (ds : List D) (t : Nat) (s : Sl) (S : Store), (∀ j d s S, ds[j]? = some d → I (t + j) s S → ∃ s1, p.put d s = some s1 ∧ ∃ s2 S2, b s1 S = some (.nx s2, S2) ∧ I (t + j + 1) s2 S2) → I t s S →
    ∃ s2 S2, forL p b ds s S = some (.nx s2, S2) ∧ I (t + ds.length) s2 S2
  | [], t, s, S, _, h => ⟨s, S, rfl, h⟩
  | d :: ds, t, s, S, hs, h => by
    obtain ⟨s1, e1, s2, S2, e2, h2⟩ := hs 0 d s S rfl h
    obtain ⟨s3, S3, e3, h3⟩ := for_ix I ds (t + 1) s2 S2 (fun j x s S hj hi => by
      have := hs (j + 1) x s S (by simpa using hj) (by rw [show t + (j + 1) = t + 1 + j by omega]; exact hi)
      rw [show t + (j + 1) + 1 = t + 1 + j + 1 by omega] at this
      exact this) h2
    refine ⟨s3, S3, ?_, by rw [List.length_cons, show t + (ds.length + 1) = t + 1 + ds.length by omega]; exact h3⟩
    unfold forL
    simp only [e1, e2, e3]
section
variable {κ β : Type} [DecidableEq κ] {kvs : List (κ × β)} {k : κ} {v : β}
theorem putG_new (h : ∀ p ∈ kvs, p.1 ≠ k) : putG kvs k v = kvs ++ [(k, v)] := by
  unfold putG
  rw [if_neg]
  rw [List.any_eq_true]
  rintro ⟨p, hp, e⟩
  exact h p hp (of_decide_eq_true e)
theorem putG_same (h : ∃ p ∈ kvs, p.1 = k) (hv : ∀ p ∈ kvs, p.2 = v) : putG kvs k v = kvs := by
  unfold putG
  rw [if_pos]
  · have : ∀ p ∈ kvs, (if p.1 = k then (p.1, v) else p) = p := fun p hp => by
      split
      · rw [← hv p hp]
      · rfl
    exact (List.map_congr_left this).trans (List.map_id _)
  · rw [List.any_eq_true]
    obtain ⟨p, hp, e⟩ := h
    exact ⟨p, hp, decide_eq_true e⟩
end
section
variable {n : Nat} {S : Store}
def kvR (R : Int → Str) (q g : Int) : Key × D := (.inr (R ((-g) % q)), .bl true)
theorem b_rows_ok (c : CallT) {p q : Int} (q1 : 1 ≤ q) (q2 : q ≤ 10000) (N : Nat) (hN : N ≤ 400) (L : List Int) (R : Int → Str) (hL : L.length ≤ 500)
    (hm : ∀ S, c 77 [.tup [.int p, .int q], .int ((N + 1 : Nat) : Int)] S = .ok (.tup (L.map fun g => fqD g q)) S)
    (hf : ∀ g ∈ L, ∀ S, c 110 [.int ((0 - (lo g q).1) % (lo g q).2), .int (lo g q).2] S = .ok (fqD ((-g) % q) q) S)
    (hf2 : ∀ t : Int, 0 ≤ t → t < q → ∀ S, c 110 [.int t, .int q] S = .ok (fqD t q) S)
    (hd : ∀ t : Int, 0 ≤ t → t < q → ∀ S, c 66 [.tup [.tup [.int p, .int q], fqD t q], .int 0, .int N] S = .ok (.str (R t)) S)
    (hb : ∀ t : Int, 0 ≤ t → t < q → ∀ S, c 112 [.tup [.tup [.int p, .int q], fqD t q], .int 0, .int N] S = .ok (.str (R t)) S)
    (hi : ∀ x S, c 92 [.str x, .str x] S = .ok (.bl true) S) (hn : L.Nodup) (hr : ∀ g ∈ L, 0 ≤ g ∧ g < q)
    (h1 : ∀ g ∈ L, ∀ h ∈ L, R ((-g) % q) = R ((-h) % q) → g = h) (h2 : ∀ t : Int, 0 ≤ t → t < q → ∃ g ∈ L, R t = R ((-g) % q)) (hO : S.O.all Lv.still = true) :
    b_law_rows_right c [some (.tup [.int p, .int q]), some (.int ((N + 1 : Nat) : Int)), none, none, none, none, none] S = some (.ret (.bl true), S) := by
  have b0 : ∀ g : Int, 0 ≤ (-g) % q ∧ (-g) % q < q := fun g => ⟨Int.emod_nonneg _ (by omega), Int.emod_lt_of_pos _ (by omega)⟩
  unfold b_law_rows_right
  refine tLoc_new (u := .dct (L.map (kvR R q))) ?_ rfl hO
  have dm : ∀ s : Sl, eDctM [] s S = .ok (.obj S.O.length) (S.newO (.dct [])) := fun s => by rfl
  have ir := iRng1_nat (m := q.toNat) (by omega)
  rw [Int.toNat_of_nonneg (by omega)] at ir
  have sz : ((N + 1 : Nat) : Int) - 1 = (N : Int) := by omega
  obtain ⟨s1, S1, e1, I1⟩ := for_ix (p := .nm 3) (b := w_law_rows_right_0 c) (fun t s S' => (∃ a b d, s = [some (.tup [.int p, .int q]), some (.int ((N + 1 : Nat) : Int)), some (.obj S.O.length), a, b, d, none]) ∧ S' = S.newO (.dct ((L.take t).map (kvR R q)))) (L.map fun g => fqD g q) 0
    [some (.tup [.int p, .int q]), some (.int ((N + 1 : Nat) : Int)), some (.obj S.O.length), none, none, none, none] (S.newO (.dct [])) (fun j d s S' hj ⟨⟨a, b, x, es⟩, eS⟩ => by
      subst es eS
      rw [List.getElem?_map] at hj
      cases hg : L[j]? with
      | none => rw [hg] at hj; cases hj
      | some g =>
        rw [hg] at hj
        cases hj
        have gm : g ∈ L := List.mem_of_getElem? hg
        have g2 : 1 ≤ (lo g q).2 := lo_y1 (by omega)
        have md := fun x S => oMod_pos (S := S) (i := x) (j := (lo g q).2) (by omega)
        have f := hf g gm
        have d1 := hd _ (b0 g).1 (b0 g).2
        have by1 := hb _ (b0 g).1 (b0 g).2
        have tk : L.take (0 + j + 1) = L.take (0 + j) ++ [g] := by
          rw [Nat.zero_add, List.take_add_one, hg]
          rfl
        have po := putO_new (S := S) (kvs := (L.take (0 + j)).map (kvR R q)) (v := .bl true) (i := .str (R ((-g) % q))) (j := .inr (R ((-g) % q))) rfl (by simp; omega) rfl
        rw [putG_new (fun pr hpr e => by
          obtain ⟨h, hh, rfl⟩ := List.mem_map.mp hpr
          have e' : R ((-h) % q) = R ((-g) % q) := Sum.inr.inj e
          have eh := h1 h (List.mem_of_mem_take hh) g gm e'
          subst eh
          obtain ⟨i, e2⟩ := List.mem_iff_getElem?.mp hh
          have hi' := (List.getElem?_eq_some_iff.mp e2).1
          rw [List.length_take] at hi'
          rw [List.getElem?_take_of_lt (by omega)] at e2
          have ej : i = j := (List.getElem?_inj (List.getElem?_eq_some_iff.mp e2).1 hn).mp (e2.trans hg.symm)
          omega)] at po
        refine ⟨_, rfl, [some (.tup [.int p, .int q]), some (.int ((N + 1 : Nat) : Int)), some (.obj S.O.length), some (fqD g q), some (fqD ((-g) % q) q), some (.str (R ((-g) % q))), none], S.newO (.dct ((L.take (0 + j + 1)).map (kvR R q))), ?_, ⟨_, _, _, rfl⟩, rfl⟩
        rw [tk, List.map_append]
        have po' : ∀ S, putO (.obj S.O.length) (.str (R ((-g) % q))) (.bl true) S = putO (.obj S.O.length) (.str (R ((-g) % q))) (.bl true) S := fun _ => rfl
        have ix0 : ∀ S, oIx (fqD g q) (.int 0) S = some (.int (lo g q).1, S) := fun S => oIx_tup0
        have ix1 : ∀ S, oIx (fqD g q) (.int 1) S = some (.int (lo g q).2, S) := fun S => oIx_tup1
        have po2 : putO (.obj S.O.length) (.str (R ((-g) % q))) (.bl true) (S.newO (.dct ((L.take (0 + j)).map (kvR R q)))) = some (S.newO (.dct ((L.take (0 + j)).map (kvR R q) ++ [g].map (kvR R q)))) := po
        rw [← sz] at d1 by1
        generalize ((N + 1 : Nat) : Int) = M at d1 by1 ⊢
        generalize S.newO (.dct ((L.take (0 + j)).map (kvR R q))) = Sa at po2 ⊢
        generalize S.newO (.dct ((L.take (0 + j)).map (kvR R q) ++ [g].map (kvR R q))) = Sb at po2 ⊢
        generalize fqD ((-g) % q) q = fs at f d1 by1 ⊢
        simp only [Int.zero_sub] at f
        simp [w_law_rows_right_0, ix0, ix1, md, f, d1, by1, hi, po2]) ⟨⟨none, none, none, rfl⟩, by simp⟩
  obtain ⟨⟨a, b, d, rfl⟩, rfl⟩ := I1
  rw [List.length_map, Nat.zero_add, List.take_length] at e1
  obtain ⟨s2, S2, e2, I2⟩ := for_ix (p := .nm 6) (b := w_law_rows_right_1 c) (fun t s S' => (∃ x, s = [some (.tup [.int p, .int q]), some (.int ((N + 1 : Nat) : Int)), some (.obj S.O.length), a, b, d, x]) ∧ S' = S.newO (.dct (L.map (kvR R q)))) (rngL 0 q.toNat) 0
    [some (.tup [.int p, .int q]), some (.int ((N + 1 : Nat) : Int)), some (.obj S.O.length), a, b, d, none] (S.newO (.dct (L.map (kvR R q)))) (fun j dd s S' hj ⟨⟨x, es⟩, eS⟩ => by
      subst es eS
      obtain ⟨i, hi', rfl⟩ := rngL_mem (List.mem_of_getElem? hj)
      have t0 : (0 : Int) ≤ 0 + (i : Int) := by omega
      have t1 : (0 : Int) + (i : Int) < q := by omega
      have f := hf2 _ t0 t1
      have d1 := hd _ t0 t1
      obtain ⟨g, gm, eg⟩ := h2 _ t0 t1
      have po := putO_new (S := S) (kvs := L.map (kvR R q)) (v := .bl true) (i := .str (R (0 + (i : Int)))) (j := .inr (R (0 + (i : Int)))) rfl (by simp; omega) rfl
      rw [putG_same ⟨kvR R q g, List.mem_map_of_mem gm, by unfold kvR; rw [eg]⟩ (fun pr hpr => by
        obtain ⟨h, _, rfl⟩ := List.mem_map.mp hpr
        rfl)] at po
      refine ⟨_, rfl, [some (.tup [.int p, .int q]), some (.int ((N + 1 : Nat) : Int)), some (.obj S.O.length), a, b, d, some (.int (0 + (i : Int)))], S.newO (.dct (L.map (kvR R q))), ?_, ⟨_, rfl⟩, rfl⟩
      rw [← sz] at d1
      generalize ((N + 1 : Nat) : Int) = M at d1 ⊢
      generalize S.newO (.dct (L.map (kvR R q))) = Sa at po ⊢
      generalize 0 + (i : Int) = ti at f d1 po ⊢
      simp [w_law_rows_right_1, f, d1, po]) ⟨⟨none, rfl⟩, rfl⟩
  obtain ⟨⟨x, rfl⟩, rfl⟩ := I2
  have dk := dkvs_new (S := S) (kvs := L.map (kvR R q))
  have lo_ : oLenO [.obj S.O.length] (S.newO (.dct (L.map (kvR R q)))) = some (.int (L.length : Nat), S.newO (.dct (L.map (kvR R q)))) := by simp [oLenO, dk]
  have ll : (L.map fun g => fqD g q).length = L.length := by simp
  generalize ((N + 1 : Nat) : Int) = M at *
  generalize (L.map fun g => fqD g q) = F at *
  generalize S.newO (.dct (L.map (kvR R q))) = Sa at *
  simp [dm, sSeq, hm, e1, ir, e2, lo_, ll]
end
end Q
namespace Q
open PySem L2
theorem lo_scale {u v g : Int} (hg : 0 < g) (hv : 0 < v) : lo (u * g) (v * g) = lo u v := by
  have e : ((Int.gcd (u * g) (v * g) : Nat) : Int) = (Int.gcd u v : Nat) * g := by
    rw [show Int.gcd (u * g) (v * g) = Int.gcd u v * g.natAbs from Int.gcd_mul_right ..]
    push_cast
    congr 1
    omega
  have g1 : 0 < Int.gcd u v := Int.gcd_pos_of_ne_zero_right _ (by omega)
  unfold lo
  rw [e]
  congr 1
  · exact Int.mul_ediv_mul_of_pos_left _ _ hg
  · exact Int.mul_ediv_mul_of_pos_left _ _ hg
theorem step_rule {p q t : Int} (r : IsStep p q) (h0 : 0 ≤ t) (h1 : t < q) : IsRule p q (lo t q).1 (lo t q).2 := by
  obtain ⟨q1, q2, p0, p1, pq⟩ := r
  exact ⟨q1, q2, p0, p1, pq, lo_y1 (by omega), Int.le_trans (lo_y2 (by omega)) q2, lo_x0 h0, lo_lt (by omega) h1, lo_gcd (by omega)⟩
theorem step_tot {p q t : Int} (r : IsStep p q) (h0 : 0 ≤ t) (h1 : t < q) (k : Int) : tot p q (lo t q).1 (lo t q).2 k = tf p q t k := by
  rw [tot_kk (step_rule r h0 h1), kk_lo (by have := r.q1; omega)]
  rfl
theorem step_form {p q t : Int} (r : IsStep p q) (h0 : 0 ≤ t) (h1 : t < q) : IsForm p q t := ⟨r.q1, r.p0, r.p1, r.pq, h0, h1⟩
def rowD23 (p q t : Int) (N : Nat) : List Bool := days p q (lo t q).1 (lo t q).2 0 N
theorem row_iff {p q t u : Int} (r : IsStep p q) (t0 : 0 ≤ t) (t1 : t < q) (u0 : 0 ≤ u) (u1 : u < q) (N : Nat) : rowD23 p q t N = rowD23 p q u N ↔ ∀ m : Nat, m ≤ N → tf p q t m = tf p q u m := by
  have d1 : ∀ n, dut p q (lo t q).1 (lo t q).2 n = df p q t n := fun n => by unfold dut df; rw [step_tot r t0 t1, step_tot r t0 t1]
  have d2 : ∀ n, dut p q (lo u q).1 (lo u q).2 n = df p q u n := fun n => by unfold dut df; rw [step_tot r u0 u1, step_tot r u0 u1]
  unfold rowD23 days
  constructor
  · intro h
    refine tf_of_df (step_form r t0 t1) (step_form r u0 u1) N fun n hn => ?_
    have := (List.map_inj_left.mp h) n (List.mem_range.mpr hn)
    rw [d1, d2, show (0 : Int) + (n : Int) = n by omega] at this
    exact this
  · intro h
    refine List.map_congr_left fun n hn => ?_
    have hn := List.mem_range.mp hn
    rw [d1, d2, show (0 : Int) + (n : Int) = n by omega]
    unfold df
    have a := h n (by omega)
    have b := h (n + 1) (by omega)
    rw [show ((n + 1 : Nat) : Int) = (n : Int) + 1 from rfl] at b
    rw [a, b]
theorem sr_cast {pn qn : Nat} (hq : 0 < qn) (i : Nat) : (-((i : Int) * (pn : Int) % (qn : Int))) % (qn : Int) = ((sr qn (rr pn qn i) : Nat) : Int) := by
  have e : (i : Int) * (pn : Int) % (qn : Int) = ((rr pn qn i : Nat) : Int) := by unfold rr; push_cast; rfl
  have l := rr_lt (p := pn) (q := qn) hq i
  rw [e]
  unfold sr
  generalize rr pn qn i = x at *
  split
  · rename_i h
    subst h
    simp
  · rw [← Int.add_emod_right, Int.emod_eq_of_lt (by omega) (by omega)]
    omega
theorem tf_cast {pn qn : Nat} (t m : Nat) : tf (pn : Int) (qn : Int) (t : Int) (m : Int) = (((m * pn + t) / qn : Nat) : Int) := by
  unfold tf
  push_cast
  rfl
theorem rows_diff {p q g h : Int} (r : IsStep p q) (N : Nat) (hg : g ∈ mks p q (N + 1)) (hh : h ∈ mks p q (N + 1)) (e : rowD23 p q ((-g) % q) N = rowD23 p q ((-h) % q) N) : g = h := by
  have q1 := r.q1
  obtain ⟨pn, rfl⟩ := Int.eq_ofNat_of_zero_le r.p0
  obtain ⟨qn, rfl⟩ := Int.eq_ofNat_of_zero_le (show 0 ≤ q by omega)
  have b := fun x : Int => (⟨Int.emod_nonneg _ (by omega), Int.emod_lt_of_pos _ (by omega)⟩ : 0 ≤ (-x) % (qn : Int) ∧ (-x) % (qn : Int) < qn)
  have T := (row_iff r (b g).1 (b g).2 (b h).1 (b h).2 N).mp e
  obtain ⟨i, hi, rfl⟩ := mem_mks.mp hg
  obtain ⟨k, hk, rfl⟩ := mem_mks.mp hh
  have ei : ∀ i : Nat, (i : Int) * (pn : Int) % (qn : Int) = ((rr pn qn i : Nat) : Int) := fun i => by unfold rr; push_cast; rfl
  by_cases h : rr pn qn i = rr pn qn k
  · rw [ei, ei, h]
  · exfalso
    obtain ⟨m, hm, ne⟩ := row_diff (p := pn) (q := qn) (n := N + 1) (by omega) hi hk h
    have z := T m (by omega)
    rw [sr_cast (by omega), sr_cast (by omega), tf_cast, tf_cast] at z
    exact ne (by exact_mod_cast z)
theorem rows_same {p q t : Int} (r : IsStep p q) (N : Nat) (t0 : 0 ≤ t) (t1 : t < q) : ∃ g ∈ mks p q (N + 1), rowD23 p q t N = rowD23 p q ((-g) % q) N := by
  have q1 := r.q1
  obtain ⟨pn, rfl⟩ := Int.eq_ofNat_of_zero_le r.p0
  obtain ⟨qn, rfl⟩ := Int.eq_ofNat_of_zero_le (show 0 ≤ q by omega)
  obtain ⟨tn, rfl⟩ := Int.eq_ofNat_of_zero_le t0
  obtain ⟨i, hi, h⟩ := row_same (p := pn) (q := qn) (n := N + 1) (t := tn) (by omega) (by omega) (by omega)
  refine ⟨(i : Int) * (pn : Int) % (qn : Int), mem_mks.mpr ⟨i, hi, rfl⟩, (row_iff r t0 t1 (Int.emod_nonneg _ (by omega)) (Int.emod_lt_of_pos _ (by omega)) N).mpr fun m hm => ?_⟩
  rw [sr_cast (by omega), tf_cast, tf_cast, h m (by omega)]
section
variable {n : Nat} {S : Store}
theorem c_rows23 {p q : Int} (r : IsStep p q) (N : Nat) (h1 : 1 ≤ N) (h2 : N ≤ 400) (hO : S.O.all Lv.still = true) : callN Lib (n + 7) 355 [.tup [.int p, .int q], .int ((N + 1 : Nat) : Int)] S = .ok (.bl true) S := by
  have q1 := r.q1; have q2 := r.q2
  rw [callN_eq (d := f_law_rows_right) rfl]
  refine run_keep rfl (b_rows_ok _ q1 q2 N h2 (mks p q (N + 1)) (fun t => wrd (rowD23 p q t N)) (Nat.le_trans mks_len (by omega)) (fun S => c_marks (n := n + 2) r (N + 1) (by omega) (by omega)) (fun g hg S => ?_) (fun t t0 t1 S => c_lfrac (n := n + 4) t q (by omega) (by omega))
    (fun t t0 t1 S => c_made (n := n) (step_rule r t0 t1) 0 N (by omega) (by omega) h1 (by omega)) (fun t t0 t1 S => c_by (n := n + 4) (step_rule r t0 t1) 0 N (by omega) (by omega) (by omega)) (fun x S => c_is_str x) (asc_nodup mks_asc) (fun g hg => mks_rng (by omega) hg)
    (fun g hg h hh e => rows_diff r N hg hh (wrd_inj e)) (fun t t0 t1 => ?_) hO)
  · have y1 := lo_y1 (x := g) (y := q) (by omega)
    have y2 := lo_y2 (x := g) (y := q) (by omega)
    have gg := (lo_g (x := g) (y := q) (by omega)).1
    have e := c_lfrac (n := n + 4) (S := S) ((0 - (lo g q).1) % (lo g q).2) (lo g q).2 (by omega) (by omega)
    have k : lo ((-g) % q) q = lo ((0 - (lo g q).1) % (lo g q).2) (lo g q).2 := by
      have ex : (-g) % q = (0 - (lo g q).1) % (lo g q).2 * (Int.gcd g q : Nat) := by
        have h := Int.mul_emod_mul_of_pos (0 - (lo g q).1) (lo g q).2 gg
        rw [Int.mul_comm _ (0 - (lo g q).1), Int.mul_comm _ (lo g q).2, Int.sub_mul, lo_x, lo_y, Int.mul_comm _ ((0 - (lo g q).1) % (lo g q).2)] at h
        rw [← h]
        simp
      rw [ex]
      have := lo_scale (u := (0 - (lo g q).1) % (lo g q).2) (v := (lo g q).2) gg (by omega)
      rw [lo_y] at this
      exact this
    unfold fqD
    rw [k]
    exact e
  · obtain ⟨g, hg, e⟩ := rows_same r N t0 t1
    exact ⟨g, hg, by rw [e]⟩
end
end Q
set_option maxHeartbeats 2000000
namespace Q
open PySem L2
section
variable {n k : Nat} {S : Store}
theorem isStep_of {x y : Int} (h0 : 0 ≤ x) (h1 : x ≤ y) (h2 : 1 ≤ y) (h3 : y ≤ 10000) : IsStep (lo x y).1 (lo x y).2 := ⟨lo_y1 (by omega), Int.le_trans (lo_y2 (by omega)) h3, lo_x0 h0, lo_le (by omega) h1, lo_gcd (by omega)⟩
theorem c_lstepU (H : Hd k S) (wide : Int) (h1 : 1 ≤ wide) (h2 : wide ≤ 10000) : ∃ p q S', callN Lib (n + 3) 113 [.ptr k, .int wide] S = .ok (.tup [.int p, .int q]) S' ∧ Hd k S' ∧ Upd k S S' ∧ IsStep p q := by
  obtain ⟨m, S1, e1, H1, U1, b1⟩ := c_anyi (n := n) H [3, 12, wide, wide] (by simp) (by simp) (fun v => 1 ≤ v ∧ v ≤ 10000) (fun v hv => by
    simp only [List.mem_cons, List.not_mem_nil, or_false] at hv
    omega)
  obtain ⟨v, S2, e2, H2, U2, b2, b3⟩ := c_draw (n := n + 1) H1 m (by omega) (by omega)
  obtain ⟨w, S3, e3, H3, U3, b4, b5⟩ := c_draw (n := n + 1) H2 (1 + v + 1) (by omega) (by omega)
  refine ⟨(lo w (1 + v)).1, (lo w (1 + v)).2, S3, ?_, H3, (U1.trans U2).trans U3, isStep_of b4 (by omega) (by omega) (by omega)⟩
  rw [callN_eq (d := f_law_step) rfl]
  exact run_keep rfl (b_lstep_ok _ wide m v w _ e1 e2 e3 (c_lfrac w (1 + v) (by omega) (by omega)))
def fb : Nat → Int × Int
  | 0 => (1, 3)
  | n + 1 => ((fb n).2, (fb n).1 + (fb n).2)
theorem fb_few : ∀ t : Fin 14, (fb t.val).2 ≤ 2000 := by decide
theorem b_ds0_ok (c : CallT) {S1 S2 : Store} (X : D) (h1 : c 90 [.ptr k, .int 5] S = .ok (.int 0) S1)
    (h2 : c 91 [.ptr k, .lst [.tup [.int 0, .int 1], .tup [.int 1, .int 1], .tup [.int 1, .int 2], .tup [.int 1, .int 10000], .tup [.int 9999, .int 10000], .tup [.int 4999, .int 9999], .tup [.int 3333, .int 9998]]] S1 = .ok X S2) :
    b_law_drawn_step c [some (.ptr k), none, none, none, none, none, none, none] S = some (.ret X, S2) := by
  simp [b_law_drawn_step, h1, h2]
theorem b_ds1_ok (c : CallT) {S1 S2 S3 : Store} (v w x y : Int) (m : Nat) (u : Option D) (X : D) (h1 : c 90 [.ptr k, .int 5] S = .ok (.int 1) S1) (h2 : c 90 [.ptr k, .int 3] S1 = .ok (.int v) S2) (h3 : c 90 [.ptr k, .int 12] S2 = .ok (.int w) S3)
    (h4 : iRng1 [.int (2 + w)] = some (rngL 0 m)) (h5 : forL (.nm 4) (w_law_drawn_step_0 c) (rngL 0 m) [some (.ptr k), some (.int 1), some (.int 1), some (.int (1 + v)), none, none, none, none] S3 = some (.nx [some (.ptr k), some (.int 1), some (.int x), some (.int y), u, none, none, none], S3))
    (h6 : c 110 [.int x, .int y] S3 = .ok X S3) : b_law_drawn_step c [some (.ptr k), none, none, none, none, none, none, none] S = some (.ret X, S3) := by
  simp [b_law_drawn_step, h1, h2, h3, h4, h5, h6]
theorem b_ds2_ok (c : CallT) {S1 S2 S3 S4 S5 : Store} (a b t d : Int) (X : D) (ha : 0 ≤ a ∧ a < 9) (hb : 0 ≤ b ∧ b < 20) (ht : 0 ≤ t ∧ t < 300) (h1 : c 90 [.ptr k, .int 5] S = .ok (.int 2) S1) (h2 : c 90 [.ptr k, .int 9] S1 = .ok (.int a) S2) (h3 : c 90 [.ptr k, .int 20] S2 = .ok (.int b) S3)
    (h4 : c 90 [.ptr k, .int 300] S3 = .ok (.int t) S4) (h5 : c 90 [.ptr k, .int 2] S4 = .ok (.int d) S5) (h6 : c 110 [.int ((1 + a) * (1 + t) + d), .int ((10 + b) * (1 + t) + 1)] S5 = .ok X S5) :
    b_law_drawn_step c [some (.ptr k), none, none, none, none, none, none, none] S = some (.ret X, S5) := by
  have m1 := fun i S => oMul_r (S := S) (i := i) (j := 1 + t) (by omega) (by omega)
  simp [b_law_drawn_step, h1, h2, h3, h4, h5, h6, m1]
theorem b_ds3_ok (c : CallT) {S1 S2 : Store} (v : Int) (X : D) (hv : 3 ≤ v) (h1 : c 90 [.ptr k, .int 5] S = .ok (.int v) S1) (h2 : c 113 [.ptr k, .int 10000] S1 = .ok X S2) :
    b_law_drawn_step c [some (.ptr k), none, none, none, none, none, none, none] S = some (.ret X, S2) := by
  have n0 : ¬ v = 0 := by omega
  have n1 : ¬ v = 1 := by omega
  have n2 : ¬ v = 2 := by omega
  simp [b_law_drawn_step, h1, h2, n0, n1, n2]
theorem c_drawn_step (H : Hd k S) : ∃ p q S', callN Lib (n + 4) 356 [.ptr k] S = .ok (.tup [.int p, .int q]) S' ∧ Hd k S' ∧ Upd k S S' ∧ IsStep p q := by
  obtain ⟨v, S1, e1, H1, U1, v0, v1⟩ := c_draw (n := n + 2) H 5 (by omega) (by omega)
  have go : ∀ {X : D} {S' : Store}, b_law_drawn_step (callN Lib (n + 3)) [some (.ptr k), none, none, none, none, none, none, none] S = some (.ret X, S') → callN Lib (n + 4) 356 [.ptr k] S = .ok X S' := fun h => by
    rw [callN_eq (d := f_law_drawn_step) rfl]
    exact run_keep rfl h
  rcases (by omega : v = 0 ∨ v = 1 ∨ v = 2 ∨ 3 ≤ v) with rfl | rfl | rfl | h3
  · obtain ⟨X, S2, e2, H2, U2, m⟩ := c_any (n := n + 1) H1 [.tup [.int 0, .int 1], .tup [.int 1, .int 1], .tup [.int 1, .int 2], .tup [.int 1, .int 10000], .tup [.int 9999, .int 10000], .tup [.int 4999, .int 9999], .tup [.int 3333, .int 9998]] (by simp) (by simp)
    have : ∃ p q, X = .tup [.int p, .int q] ∧ IsStep p q := by
      simp only [List.mem_cons, List.not_mem_nil, or_false] at m
      rcases m with rfl | rfl | rfl | rfl | rfl | rfl | rfl
      all_goals exact ⟨_, _, rfl, by decide, by decide, by decide, by decide, by decide⟩
    obtain ⟨p, q, rfl, st⟩ := this
    exact ⟨p, q, S2, go (b_ds0_ok _ _ e1 e2), H2, U1.trans U2, st⟩
  · obtain ⟨x, S2, e2, H2, U2, x0, x1⟩ := c_draw (n := n + 2) H1 3 (by omega) (by omega)
    obtain ⟨w, S3, e3, H3, U3, w0, w1⟩ := c_draw (n := n + 2) H2 12 (by omega) (by omega)
    obtain ⟨wn, rfl⟩ := Int.eq_ofNat_of_zero_le w0
    have ir := iRng1_nat (m := 2 + wn) (by omega)
    obtain ⟨s', S', ef, ⟨a, b, u, es, i0, i1, i2, i3⟩, eS⟩ := for_ix (p := .nm 4) (b := w_law_drawn_step_0 (callN Lib (n + 3))) (fun t s S' => (∃ a b u, s = [some (.ptr k), some (.int 1), some (.int a), some (.int b), u, none, none, none] ∧ 1 ≤ a ∧ a ≤ b ∧ a ≤ (fb t).1 ∧ b ≤ (fb t).2) ∧ S' = S3) (rngL 0 (2 + wn)) 0
      [some (.ptr k), some (.int 1), some (.int 1), some (.int (1 + x)), none, none, none, none] S3 (fun j d s S' _ ⟨⟨a, b, u, es, i0, i1, i2, i3⟩, eS⟩ => by
        subst es eS
        refine ⟨_, rfl, [some (.ptr k), some (.int 1), some (.int b), some (.int (a + b)), some d, none, none, none], S', by simp [w_law_drawn_step_0], ⟨b, a + b, some d, rfl, by omega, by omega, ?_, ?_⟩, rfl⟩
        · show b ≤ (fb (0 + j)).2
          exact i3
        · show a + b ≤ (fb (0 + j)).1 + (fb (0 + j)).2
          omega) ⟨⟨1, 1 + x, none, rfl, by omega, by omega, by decide, by show 1 + x ≤ 3; omega⟩, rfl⟩
    subst es eS
    rw [rngL_len, Nat.zero_add] at i3
    have := fb_few ⟨2 + wn, by omega⟩
    simp only at this
    refine ⟨(lo a b).1, (lo a b).2, S', go (b_ds1_ok _ x wn a b (2 + wn) u _ e1 e2 e3 (by rw [show (2 : Int) + (wn : Int) = ((2 + wn : Nat) : Int) by omega]; exact ir) ef (c_lfrac (n := n + 1) a b (by omega) (by omega))), H3, (U1.trans U2).trans U3, isStep_of (by omega) i1 (by omega) (by omega)⟩
  · obtain ⟨a, S2, e2, H2, U2, a0, a1⟩ := c_draw (n := n + 2) H1 9 (by omega) (by omega)
    obtain ⟨b, S3, e3, H3, U3, b0, b1⟩ := c_draw (n := n + 2) H2 20 (by omega) (by omega)
    obtain ⟨t, S4, e4, H4, U4, t0, t1⟩ := c_draw (n := n + 2) H3 300 (by omega) (by omega)
    obtain ⟨d, S5, e5, H5, U5, d0, d1⟩ := c_draw (n := n + 2) H4 2 (by omega) (by omega)
    have m1 : (1 + a) * (1 + t) ≤ (10 + b) * (1 + t) := Int.mul_le_mul_of_nonneg_right (by omega) (by omega)
    have m2 : (10 + b) * (1 + t) ≤ 29 * 300 := Int.mul_le_mul (by omega) (by omega) (by omega) (by omega)
    have m3 : 0 ≤ (1 + a) * (1 + t) := Int.mul_nonneg (by omega) (by omega)
    exact ⟨_, _, S5, go (b_ds2_ok _ a b t d _ ⟨a0, a1⟩ ⟨b0, b1⟩ ⟨t0, t1⟩ e1 e2 e3 e4 e5 (c_lfrac (n := n + 1) _ _ (by omega) (by omega))), H5, (((U1.trans U2).trans U3).trans U4).trans U5, isStep_of (by omega) (by omega) (by omega) (by omega)⟩
  · obtain ⟨p, q, S2, e2, H2, U2, st⟩ := c_lstepU (n := n) H1 10000 (by omega) (by omega)
    exact ⟨p, q, S2, go (b_ds3_ok _ v _ h3 e1 e2), H2, U1.trans U2, st⟩
theorem w_told {c : CallT} {te : TE} {s : Sl} {d : D} {S' : Store} (e : te s S = .ok d S') (hf : d.flat = true) : eTold true 3 (b_law_word_v6 c) te s S = .ok (.str "told") S' := by
  simp [eTold, b_law_word_v6, tTryAs, eAct, flatR, e, hf]
theorem w_step {c : CallT} {te : TE} {s : Sl} {S' : Store} (e : te s S = .ex ⟨7, []⟩ S') : eTold true 3 (b_law_word_v6 c) te s S = .ok (.str "step") S' := by
  have x0 : oIx (.lst [.str "step", .str "number"]) (.int 0) S' = some (.str "step", S') := oIx_lst (n := 0) rfl
  have ix : oIndexL [.lst [.bl true, .bl false], .bl true] S' = some (.int 0, S') := rfl
  simp [eTold, b_law_word_v6, tTryAs, eAct, flatR, e, isSub, flats, flatSl, oIsE, isLstD, itemsL, oCountL, ix, flatD, eqF, oEqS, eqS, x0]
theorem w_num {c : CallT} {te : TE} {s : Sl} {S' : Store} (e : te s S = .ex ⟨3, []⟩ S') : eTold true 3 (b_law_word_v6 c) te s S = .ok (.str "number") S' := by
  have x0 : oIx (.lst [.str "step", .str "number"]) (.int 1) S' = some (.str "number", S') := oIx_lst (n := 1) rfl
  have ix : oIndexL [.lst [.bl false, .bl true], .bl true] S' = some (.int 1, S') := rfl
  simp [eTold, b_law_word_v6, tTryAs, eAct, flatR, e, isSub, flats, flatSl, oIsE, isLstD, itemsL, oCountL, ix, flatD, eqF, oEqS, eqS, x0]
end
end Q
set_option maxHeartbeats 4000000
namespace Q
open PySem L2
section
variable {k : Nat} {S : Store}
def big30 : Int := 1000000000000000000000000000000
def odds23 : List D := [.non, .int 0, .int 1, .bl true, .str "1/2", .tup [.int 1], .tup [.int 2, .int 4], .tup [.int 0, .int 2], .tup [.int (-1), .int 2], .tup [.int 3, .int 2], .tup [.int 1, .int 0], .tup [.int 1, .int (-2)], .lst [.int 1, .int 2], .tup [.int 1, .int 2, .int 3],
  .tup [.int 1, .int 10001], .tup [.bl true, .int 1], .tup [.int 1, .bl true], .tup [.int 0, .int 0], .tup [.str "1", .str "2"], .tup [.non, .int 1], .tup [.int 1000000000000000000000000000000, .int 1000000000000000000000000000001], .tup [.int (-1000000000000000000000000000000), .int 1], .dct [], .tup []]
def fars23 : List D := [.int 0, .int (-1), .int 501, .non, .bl true, .str "5", .tup [.int 5], .lst [], .int 1000000000, .int 1000000000000000000000000000000]
theorem odd_check (d : D) (h : d ∈ odds23) (x : D) (S : Store) : callN Lib 95 76 [d, x] S = .ex ⟨7, []⟩ S := by
  simp only [odds23, List.mem_cons, List.not_mem_nil, or_false] at h
  rcases h with rfl | rfl | rfl | rfl | rfl | rfl | rfl | rfl | rfl | rfl | rfl | rfl | rfl | rfl | rfl | rfl | rfl | rfl | rfl | rfl | rfl | rfl | rfl | rfl
  all_goals kernel_rfl
theorem b_marks_no (c : CallT) (d x : D) {e : Ex} (h : c 76 [d, x] S = .ex e S) : b_marks c [some d, some x, none] S = some (.ex e [some d, some x, none], S) := by
  simp [b_marks, h]
theorem b_arcs_no (c : CallT) (d x : D) {e : Ex} (h : c 76 [d, x] S = .ex e S) : b_arcs c [some d, some x, none, none, none, none, none, none] S = some (.ex e [some d, some x, none, none, none, none, none, none], S) := by
  simp [b_arcs, h]
theorem odd_marks (d : D) (h : d ∈ odds23) (x : D) (S : Store) : callN Lib 96 77 [d, x] S = .ex ⟨7, []⟩ S := by
  rw [callN_eq (n := 95) (d := f_marks) rfl]
  exact run_ex rfl (b_marks_no _ _ _ (odd_check d h x S))
theorem odd_arcs (d : D) (h : d ∈ odds23) (x : D) (S : Store) : callN Lib 96 78 [d, x] S = .ex ⟨7, []⟩ S := by
  rw [callN_eq (n := 95) (d := f_arcs) rfl]
  exact run_ex rfl (b_arcs_no _ _ _ (odd_check d h x S))
theorem far_within (n : Nat) (x : D) (h : x ∈ fars23) (S : Store) : callN Lib (n + 2) 2 [x, .int 1, .int 500] S = .ok (.bl false) S := by
  simp only [fars23, List.mem_cons, List.not_mem_nil, or_false] at h
  rcases h with rfl | rfl | rfl | rfl | rfl | rfl | rfl | rfl | rfl | rfl
  all_goals first
    | exact c_not_within _ 1 500 rfl
    | (rw [c_is_within]; rfl)
theorem far_check {p q : Int} (r : IsStep p q) (x : D) (h : x ∈ fars23) (S : Store) : callN Lib 95 76 [.tup [.int p, .int q], x] S = .ex ⟨3, []⟩ S := by
  obtain ⟨q1, q2, p0, p1, pq⟩ := r
  rw [callN_eq (n := 94) (d := f_check_marks) rfl]
  refine run_ex (s' := [some (.tup [.int p, .int q]), some x]) rfl ?_
  have w := far_within 92 x h S
  have f := c_is_fraction (n := 92) (S := S) p q (by omega)
  rw [decide_eq_true (show 1 ≤ q ∧ Int.gcd p q = 1 from ⟨q1, pq⟩)] at f
  have l1 := c_less (n := 93) (S := S) p q 0 1 (by omega) (by decide)
  have l2 := c_less (n := 93) (S := S) 1 1 p q (by decide) (by omega)
  rw [decide_eq_false (by omega)] at l1 l2
  have h3 : ¬ 10000 < q := by omega
  generalize callN Lib 94 = c at w f l1 l2
  simp [b_check_marks, w, f, l1, l2, h3]
theorem far_marks {p q : Int} (r : IsStep p q) (x : D) (h : x ∈ fars23) (S : Store) : callN Lib 96 77 [.tup [.int p, .int q], x] S = .ex ⟨3, []⟩ S := by
  rw [callN_eq (n := 95) (d := f_marks) rfl]
  exact run_ex rfl (b_marks_no _ _ _ (far_check r x h S))
theorem far_arcs {p q : Int} (r : IsStep p q) (x : D) (h : x ∈ fars23) (S : Store) : callN Lib 96 78 [.tup [.int p, .int q], x] S = .ex ⟨3, []⟩ S := by
  rw [callN_eq (n := 95) (d := f_arcs) rfl]
  exact run_ex rfl (b_arcs_no _ _ _ (far_check r x h S))
def wds23 : List D := [.str "step", .str "step", .str "step", .str "step", .str "number", .str "number"]
theorem b_rturn_ok (c : CallT) (hdp : deep c = true) {S1 S2 S3 : Store} (good bad wrong res : D) (w : Int) (od : D) (fs : List D) (x4 x5 x6 x7 : Option D)
    (y1 : c 91 [.ptr k, od] S = .ok bad S1) (y2 : c 91 [.ptr k, .lst fs] S1 = .ok wrong S2)
    (m1 : ∀ y S, c 1000077 [bad, y] S = .ex ⟨7, []⟩ S) (a1 : ∀ y S, c 1000078 [bad, y] S = .ex ⟨7, []⟩ S) (m2 : ∀ S, c 1000077 [good, wrong] S = .ex ⟨3, []⟩ S) (a2 : ∀ S, c 1000078 [good, wrong] S = .ex ⟨3, []⟩ S)
    (dr : c 1000090 [.ptr k, .int 500] (S2.new wds23) = .ok (.int w) (S3.new wds23)) (hl : S3.L.length = S2.L.length) (a3 : ∀ S, c 1000078 [good, .int (1 + w)] S = .ok res S) (hf : res.flat = true) :
    ∃ s', w_law_refused_right_v3_0 c [some (.ptr k), some good, some od, some (.lst fs), x4, x5, x6, x7] S = some (.nx [some (.ptr k), some good, some od, some (.lst fs), x4, some bad, some wrong, s'], S3.dead) := by
  have t1 := fun y (s : Sl) (S : Store) (g5 : s[5]? = some (some bad)) (ty : TE) (gy : ty s S = .ok y S) => w_step (c := c) (te := eCall c 1000077 [eV 5, ty]) (s := s) (S := S) (S' := S) (by simp [g5, gy, m1])
  have t2 := fun y (s : Sl) (S : Store) (g5 : s[5]? = some (some bad)) (ty : TE) (gy : ty s S = .ok y S) => w_step (c := c) (te := eCall c 1000078 [eV 5, ty]) (s := s) (S := S) (S' := S) (by simp [g5, gy, a1])
  have t3 := fun (s : Sl) (S : Store) (g1 : s[1]? = some (some good)) (g6 : s[6]? = some (some wrong)) => w_num (c := c) (te := eCall c 1000077 [eV 1, eV 6]) (s := s) (S := S) (S' := S) (by simp [g1, g6, m2])
  have t4 := fun (s : Sl) (S : Store) (g1 : s[1]? = some (some good)) (g6 : s[6]? = some (some wrong)) => w_num (c := c) (te := eCall c 1000078 [eV 1, eV 6]) (s := s) (S := S) (S' := S) (by simp [g1, g6, a2])
  have t5 := fun (s : Sl) (g0 : s[0]? = some (some (.ptr k))) (g1 : s[1]? = some (some good)) => w_told (c := c) (te := eCall c 1000078 [eV 1, e2 oAdd (eC (.int 1)) (eCall c 1000090 [eV 0, eC (.int 500)])]) (s := s) (S := S2.new wds23) (S' := S3.new wds23) (d := res) (by simp [g0, g1, dr, a3]) hf
  refine ⟨some (.lst (wds23 ++ [.str "told"])), ?_⟩
  have u1 := fun s S g5 g6 => t1 wrong s S g5 (eV 6) g6
  have u2 := fun s S g5 g6 => t2 wrong s S g5 (eV 6) g6
  have u3 := fun s S g5 => t1 (.int 3) s S g5 (eC (.int 3)) rfl
  have u4 := fun s S g5 => t2 (.int 500) s S g5 (eC (.int 500)) rfl
  have ne : ∀ S, oNe (.lst [.str "step", .str "step", .str "step", .str "step", .str "number", .str "number", .str "told"]) (.lst [.str "step", .str "step", .str "step", .str "step", .str "number", .str "number", .str "told"]) S = some (.bl false, S) := fun S => by kernel_rfl
  have ml1 : ∀ S, oMulL (.lst [.str "step"]) (.int 4) S = some (.lst [.str "step", .str "step", .str "step", .str "step"], S) := fun S => by kernel_rfl
  have ml2 : ∀ S, oMulL (.lst [.str "number"]) (.int 2) S = some (.lst [.str "number", .str "number"], S) := fun S => by kernel_rfl
  have ad1 : ∀ S, oAdd (.lst [.str "step", .str "step", .str "step", .str "step"]) (.lst [.str "number", .str "number"]) S = some (.lst [.str "step", .str "step", .str "step", .str "step", .str "number", .str "number"], S) := fun S => by kernel_rfl
  have ad2 : ∀ S, oAdd (.lst [.str "step", .str "step", .str "step", .str "step", .str "number", .str "number"]) (.lst [.str "told"]) S = some (.lst [.str "step", .str "step", .str "step", .str "step", .str "number", .str "number", .str "told"], S) := fun S => by kernel_rfl
  clear t1 t2
  unfold wds23 at t5 ⊢
  unfold w_law_refused_right_v3_0
  simp only [hdp]
  have ap : ∀ (S : Store) (xs : List D) (z : Str), xs.length ≤ 10 → oAppend [.ptr S.L.length, .str z] (S.new xs) = some (.non, S.new (xs ++ [.str z])) := fun S xs z h => append_at rfl (by omega) rfl
  have ap3 : ∀ (xs : List D) (z : Str), xs.length ≤ 10 → oAppend [.ptr S2.L.length, .str z] (S3.new xs) = some (.non, S3.new (xs ++ [.str z])) := fun xs z h => append_at hl.symm (by omega) rfl
  have il : ∀ (S : Store) (xs : List D), isLstD (.ptr S.L.length) (S.new xs) = true := fun S xs => isLst_at rfl
  have fz : ∀ (s : Sl) (xs : List D), s[7]? = some (some (.ptr S2.L.length)) → frzS 7 s (S3.new xs) = some (s.set 7 (some (.lst xs)), S3.dead) := fun s xs h => frz_at h hl.symm
  simp [y1, y2, u1, u2, u3, u4, t3, t4, t5, ap, ap3, il, fz, ne, ml1, ml2, ad1, ad2]
theorem c_any_ptr {n j : Nat} (H : Hd k S) (hj : j ≠ k) {ds : List D} (g : S.get j = some ds) (h0 : 0 < ds.length) (h1 : ds.length ≤ 1000) :
    ∃ d S', callN Lib (n + 2) 91 [.ptr k, .ptr j] S = .ok d S' ∧ Hd k S' ∧ Upd k S S' ∧ d ∈ ds := by
  obtain ⟨r, S', e, H', U, r0, r1⟩ := c_draw (n := n) H (ds.length : Int) (by omega) (by omega)
  obtain ⟨rn, rfl⟩ := Int.eq_ofNat_of_zero_le r0
  have hr : rn < ds.length := by omega
  have hx : ds[rn]? = some ds[rn] := by simp [hr]
  have g' : S'.get j = some ds := (U.other' hj).trans g
  refine ⟨ds[rn], S', ?_, H', U, List.getElem_mem hr⟩
  rw [callN_eq (d := f_law_any) rfl]
  refine run_keep rfl ?_
  have ln : oLen [.ptr j] S = some (.int (ds.length : Nat), S) := by simp [oLen, itemsLT, itemsL, g]
  simp [b_law_any, ln, e, oIx_ptr g' hx]
theorem low_marks (y z : D) (S : Store) : callN Lib 98 1000077 [y, z] S = callN Lib 96 77 [y, z] S := callN_low (n := 96) (id := 77) rfl
theorem low_arcs (y z : D) (S : Store) : callN Lib 98 1000078 [y, z] S = callN Lib 96 78 [y, z] S := callN_low (n := 96) (id := 78) rfl
theorem low_draw (y z : D) (S : Store) : callN Lib 98 1000090 [y, z] S = callN Lib 96 90 [y, z] S := callN_low (n := 96) (id := 90) rfl
theorem deep99 : deep (callN Lib 98) = true := deep_low (n := 96) rfl
theorem c_rturns {p q : Int} (r : IsStep p q) {j : Nat} {S0 : Store} (H0 : Hd k S0) (hj : j ≠ k) (hk : k < j) (g0 : S0.get j = some odds23) (ds : List D) (x4 x5 x6 x7 : Option D) : ∃ s' S', forL (.nm 4) (w_law_refused_right_v3_0 (callN Lib 98)) ds [some (.ptr k), some (.tup [.int p, .int q]), some (.ptr j), some (.lst fars23), x4, x5, x6, x7] S0 = some (.nx s', S') ∧ Hd k S' ∧ Grow k S0 S' := by
  obtain ⟨s', S', e, ⟨⟨u4, u5, u6, u7, es⟩, H', g', G⟩⟩ := for_ix (p := .nm 4) (b := w_law_refused_right_v3_0 (callN Lib 98)) (fun _ s S => (∃ x4 x5 x6 x7, s = [some (.ptr k), some (.tup [.int p, .int q]), some (.ptr j), some (.lst fars23), x4, x5, x6, x7]) ∧ Hd k S ∧ S.get j = some odds23 ∧ Grow k S0 S) ds 0
    [some (.ptr k), some (.tup [.int p, .int q]), some (.ptr j), some (.lst fars23), x4, x5, x6, x7] S0 (fun _ d s S _ ⟨⟨u4, u5, u6, u7, es⟩, H, g, G⟩ => by
      subst es
      obtain ⟨bad, S1, e1, H1, U1, mb⟩ := c_any_ptr (n := 96) H hj g (by decide) (by decide)
      obtain ⟨wrong, S2, e2, H2, U2, mw⟩ := c_any (n := 96) H1 fars23 (by decide) (by decide)
      obtain ⟨w, S3', e3, H3', U3', w0, w1⟩ := c_draw (n := 95) (H2.new' wds23) 500 (by omega) (by omega)
      obtain ⟨S3, rfl, H3, U3⟩ := Upd.new_out H2 U3' H3'
      obtain ⟨wn, rfl⟩ := Int.eq_ofNat_of_zero_le w0
      obtain ⟨s7, et⟩ := b_rturn_ok (callN Lib 98) deep99 (.tup [.int p, .int q]) bad wrong _ wn (.ptr j) fars23 (some d) u5 u6 u7 e1 e2 (fun y S => by rw [low_marks]; exact odd_marks _ mb y S) (fun y S => by rw [low_arcs]; exact odd_arcs _ mb y S)
        (fun S => by rw [low_marks]; exact far_marks r _ mw S) (fun S => by rw [low_arcs]; exact far_arcs r _ mw S) (by rw [low_draw]; exact e3) U3.len' (fun S => by
          have := c_arcs (n := 92) (S := S) r (1 + wn) (by omega) (by omega)
          rw [low_arcs, show (1 : Int) + (wn : Int) = ((1 + wn : Nat) : Int) by omega]
          exact this) (by
          simp only [flat_tup]
          rw [flats_all]
          intro d hd
          obtain ⟨g, _, rfl⟩ := List.mem_map.mp hd
          rfl)
      have U := (U1.trans U2).trans U3
      have hlt : j < S3.L.length := by rw [U.len']; exact get_lt g
      exact ⟨_, rfl, _, _, et, ⟨_, _, _, _, rfl⟩, H3.dead, by rw [dead_get_lt hlt, U.other' hj]; exact g, (Grow.trans H0 G U.grow).dead⟩) ⟨⟨x4, x5, x6, x7, rfl⟩, H0, g0, Grow.refl H0⟩
  exact ⟨s', S', e, H', G⟩
theorem b_refused_ok (c : CallT) {S1 S2 : Store} {s' : Sl} (good : D) (h1 : c 356 [.ptr k] S = .ok good S1)
    (h3 : forL (.nm 4) (w_law_refused_right_v3_0 c) (rngL 0 4) [some (.ptr k), some good, some (.ptr (S1.L.length + 1)), some (.lst fars23), none, none, none, none] (S1.dead.new odds23) = some (.nx s', S2)) :
    b_law_refused_right_v3 c [some (.ptr k), none, none, none, none, none, none, none] S = some (.ret (.bl true), S2) := by
  have ir : iRng1 [.int 4] = some (rngL 0 4) := rfl
  have p9 : ∀ S, oPow (.int 10) (.int 9) S = some (.int 1000000000, S) := fun S => oPow_9
  have p30 : ∀ S, oPow (.int 10) (.int 30) S = some (.int 1000000000000000000000000000000, S) := fun S => (oPow_10 (n := 30)).trans (by simp)
  have ap := fun (xs : List D) (d : D) h hf => append_at (S := S1) (j := S1.L.length) (xs := xs) (d := d) rfl h hf
  have il : ∀ (xs : List D), isLstD (.ptr S1.L.length) (S1.new xs) = true := fun xs => isLst_at rfl
  have fz : ∀ (s : Sl) (xs : List D), s[2]? = some (some (.ptr S1.L.length)) → frzS 2 s (S1.new xs) = some (s.set 2 (some (.lst xs)), S1.dead) := fun s xs h => frz_at h rfl
  have ng : ∀ S, oNeg (.int 1000000000000000000000000000000) S = some (.int (-1000000000000000000000000000000), S) := fun S => rfl
  have ad : ∀ S, oAdd (.int 1000000000000000000000000000000) (.int 1) S = some (.int 1000000000000000000000000000001, S) := fun S => rfl
  have dt0 : ∀ s S, eDct [] s S = .ok (.dct []) S := fun _ _ => rfl
  have am : oAddM (.lst [.non, .int 0, .int 1, .bl true, .str "1/2", .tup [.int 1], .tup [.int 2, .int 4], .tup [.int 0, .int 2], .tup [.int (-1), .int 2], .tup [.int 3, .int 2], .tup [.int 1, .int 0], .tup [.int 1, .int (-2)], .lst [.int 1, .int 2], .tup [.int 1, .int 2, .int 3], .tup [.int 1, .int 10001]])
    (.lst [.tup [.bl true, .int 1], .tup [.int 1, .bl true], .tup [.int 0, .int 0], .tup [.str "1", .str "2"], .tup [.non, .int 1], .tup [.int 1000000000000000000000000000000, .int 1000000000000000000000000000001], .tup [.int (-1000000000000000000000000000000), .int 1], .dct [], .tup []]) S1.dead = some (.ptr (S1.L.length + 1), S1.dead.new odds23) := by
    have : S1.dead.L.length = S1.L.length + 1 := dead_len
    rw [← this]
    rfl
  unfold fars23 at h3
  generalize (1000000000000000000000000000000 : Int) = B at *
  simp [b_law_refused_right_v3, h1, ap, il, fz, p9, p30, ng, ad, dt0, am, ir, h3]
theorem c_refused23 (H : Hd k S) : ∃ S', callN Lib 99 358 [.ptr k] S = .ok (.bl true) S' ∧ Hd k S' ∧ Upd k S S' := by
  obtain ⟨p, q, S1, e1, H1, U1, r⟩ := c_drawn_step (n := 94) H
  have Hn := H1.dead.new' odds23
  have dl : S1.dead.L.length = S1.L.length + 1 := dead_len
  have hk := H1.lt'
  have g : (S1.dead.new odds23).get (S1.L.length + 1) = some odds23 := new_get_at dl.symm
  obtain ⟨s', S2, e2, H2, G2⟩ := c_rturns r Hn (j := S1.L.length + 1) (by omega) (by omega) g (rngL 0 4) none none none none
  obtain ⟨H3, U3⟩ := Grow.cut H H2 (Grow.trans H (U1.grow.dead.new odds23) G2)
  refine ⟨S2.cut S.L.length, ?_, H3, U3⟩
  rw [callN_eq (n := 98) (d := f_law_refused_right_v3) rfl]
  have body : b_law_refused_right_v3 (callN Lib 98) [some (.ptr k), none, none, none, none, none, none, none] S = some (.ret (.bl true), S2) := b_refused_ok _ _ e1 e2
  exact run_cut rfl body rfl
end
end Q
set_option maxHeartbeats 4000000
namespace Q
open PySem L2
section
variable {k : Nat} {S : Store}
theorem c_known23 : callN Lib 99 359 [] S = .ok (.bl true) S := by
  have a1 : callN Lib 98 77 [.tup [.int 2, .int 5], .int 4] S = .ok (.tup [.tup [.int 0, .int 1], .tup [.int 1, .int 5], .tup [.int 2, .int 5], .tup [.int 4, .int 5]]) S := by kernel_rfl
  have a2 : callN Lib 98 78 [.tup [.int 2, .int 5], .int 4] S = .ok (.tup [.tup [.int 1, .int 5], .tup [.int 2, .int 5]]) S := by kernel_rfl
  have a3 : callN Lib 98 77 [.tup [.int 0, .int 1], .int 9] S = .ok (.tup [.tup [.int 0, .int 1]]) S := by kernel_rfl
  have a4 : callN Lib 98 78 [.tup [.int 0, .int 1], .int 9] S = .ok (.tup [.tup [.int 1, .int 1]]) S := by kernel_rfl
  have a5 : callN Lib 98 77 [.tup [.int 1, .int 1], .int 2] S = .ok (.tup [.tup [.int 0, .int 1]]) S := by kernel_rfl
  have a6 : callN Lib 98 78 [.tup [.int 1, .int 3], .int 500] S = .ok (.tup [.tup [.int 1, .int 3]]) S := by kernel_rfl
  have a7 : callN Lib 98 77 [.tup [.int 5, .int 8], .int 4] S = .ok (.tup [.tup [.int 0, .int 1], .tup [.int 1, .int 4], .tup [.int 5, .int 8], .tup [.int 7, .int 8]]) S := by kernel_rfl
  have a8 : callN Lib 98 78 [.tup [.int 5, .int 8], .int 4] S = .ok (.tup [.tup [.int 1, .int 8], .tup [.int 1, .int 4], .tup [.int 3, .int 8]]) S := by kernel_rfl
  have a9 : callN Lib 98 78 [.tup [.int 5, .int 8], .int 1] S = .ok (.tup [.tup [.int 1, .int 1]]) S := by kernel_rfl
  have a10 : callN Lib 98 77 [.tup [.int 1, .int 2], .int 500] S = .ok (.tup [.tup [.int 0, .int 1], .tup [.int 1, .int 2]]) S := by kernel_rfl
  have a11 : callN Lib 98 78 [.tup [.int 3, .int 10], .int 5] S = .ok (.tup [.tup [.int 1, .int 10], .tup [.int 1, .int 5], .tup [.int 3, .int 10]]) S := by kernel_rfl
  have ll : ∀ a b S, a.length + b.length ≤ 16777216 → oAdd (.lst a) (.lst b) S = some (.lst (a ++ b), S) := fun a b S h => oAdd_lst h
  obtain ⟨X, hX⟩ : ∃ X : List D, X = [.tup [.tup [.int 0, .int 1], .tup [.int 1, .int 5], .tup [.int 2, .int 5], .tup [.int 4, .int 5]], .tup [.tup [.int 1, .int 5], .tup [.int 2, .int 5]], .tup [.tup [.int 0, .int 1]], .tup [.tup [.int 1, .int 1]], .tup [.tup [.int 0, .int 1]], .tup [.tup [.int 1, .int 3]],
    .tup [.tup [.int 0, .int 1], .tup [.int 1, .int 4], .tup [.int 5, .int 8], .tup [.int 7, .int 8]], .tup [.tup [.int 1, .int 8], .tup [.int 1, .int 4], .tup [.int 3, .int 8]], .tup [.tup [.int 1, .int 1]], .tup [.tup [.int 0, .int 1], .tup [.int 1, .int 2]], .tup [.tup [.int 1, .int 10], .tup [.int 1, .int 5], .tup [.int 3, .int 10]]] := ⟨_, rfl⟩
  have i := is_refl 3 (.lst X) (by rw [hX]; decide) 94 S
  rw [callN_eq (n := 98) (d := f_law_known_right_v2) rfl]
  simp only [Nat.reduceAdd] at i
  generalize callN Lib 98 = c at *
  refine run_keep rfl ?_
  rw [hX] at i
  simp [b_law_known_right_v2, a1, a2, a3, a4, a5, a6, a7, a8, a9, a10, a11, ll, i]
theorem turn23_ok (c : CallT) {S1 S2 S3 S4 : Store} {p q w1 w2 : Int} {v : Int} {u2 : Option D} (X : D) (x3 x4 x5 : Option D)
    (y1 : c 356 [.ptr k] S = .ok (.tup [.int p, .int q]) S1)
    (y2 : c 91 [.ptr k, .lst [.int 1, .int 2, .int 500, .int (if q < 500 then q else 500), .int (if q + 1 < 500 then q + 1 else 500), .int (if (if q - 1 < 500 then q - 1 else 500) > 1 then (if q - 1 < 500 then q - 1 else 500) else 1)]] S1 = .ok (.int v) S2)
    (y3 : c 90 [.ptr k, .int 500] S2 = .ok (.int w1) S3) (y4 : c 90 [.ptr k, .int 12] S3 = .ok (.int w2) S4)
    (t : ∀ m, m = v ∨ m = 1 + w1 ∨ m = 1 + w2 → c 354 [.tup [.int p, .int q], .int m] S4 = .ok (.bl true) S4) :
    w_law_v24_1 c [some X, some (.ptr k), u2, x3, x4, x5] S = some (.nx [some X, some (.ptr k), u2, some (.tup [.int p, .int q]), some (.int v), some (.int (1 + w2))], S4) := by
  have t1 := t v (.inl rfl)
  have t2 := t (1 + w1) (.inr (.inl rfl))
  have t3 := t (1 + w2) (.inr (.inr rfl))
  have y2' := y2
  simp [w_law_v24_1, y1, y2, y3, y4, sSeq, forL, w_law_v24_0, t1, t2, t3]
theorem c_turn23 (H : Hd k S) (hO : S.O.all Lv.still = true) (X : D) (u2 x3 x4 x5 : Option D) : ∃ y3 y4 y5 S', w_law_v24_1 (callN Lib 99) [some X, some (.ptr k), u2, x3, x4, x5] S = some (.nx [some X, some (.ptr k), u2, y3, y4, y5], S') ∧ Hd k S' ∧ Upd k S S' := by
  obtain ⟨p, q, S1, e1, H1, U1, r⟩ := c_drawn_step (n := 95) H
  have q1 := r.q1
  obtain ⟨v, S2, e2, H2, U2, hv⟩ := c_anyi (n := 97) H1 [1, 2, 500, if q < 500 then q else 500, if q + 1 < 500 then q + 1 else 500, if (if q - 1 < 500 then q - 1 else 500) > 1 then (if q - 1 < 500 then q - 1 else 500) else 1] (by simp) (by simp) (fun v => 1 ≤ v ∧ v ≤ 500) (fun v hv => by
    simp only [List.mem_cons, List.not_mem_nil, or_false] at hv
    rcases hv with rfl | rfl | rfl | rfl | rfl | rfl
    · omega
    · omega
    · omega
    · split <;> omega
    · split <;> omega
    · split <;> (try split) <;> omega)
  obtain ⟨w1, S3, e3, H3, U3, w10, w11⟩ := c_draw (n := 98) H2 500 (by omega) (by omega)
  obtain ⟨w2, S4, e4, H4, U4, w20, w21⟩ := c_draw (n := 98) H3 12 (by omega) (by omega)
  have U := ((U1.trans U2).trans U3).trans U4
  have hO4 : S4.O.all Lv.still = true := by
    obtain ⟨xs, rfl⟩ := U
    exact hO
  refine ⟨_, _, _, S4, turn23_ok _ X x3 x4 x5 e1 e2 e3 e4 (fun m hm => ?_), H4, U⟩
  obtain ⟨mn, rfl⟩ := Int.eq_ofNat_of_zero_le (show 0 ≤ m by omega)
  exact c_told23 (n := 93) r mn (by omega) (by omega) hO4
theorem rturn23_ok (c : CallT) {S1 S2 : Store} {p q w : Int} (s : Sl) (y0 : s[1]? = some (some (.ptr k))) (y1 : c 113 [.ptr k, .int 40] S = .ok (.tup [.int p, .int q]) S1) (y2 : c 90 [.ptr k, .int 30] S1 = .ok (.int w) S2)
    (y3 : c 355 [.tup [.int p, .int q], .int (2 + w)] S2 = .ok (.bl true) S2) : w_law_v24_2 c s S = some (.nx s, S2) := by
  simp [w_law_v24_2, y0, y1, y2, y3]
theorem c_rturn23 (H : Hd k S) (hO : S.O.all Lv.still = true) (s : Sl) (y0 : s[1]? = some (some (.ptr k))) : ∃ S', w_law_v24_2 (callN Lib 99) s S = some (.nx s, S') ∧ Hd k S' ∧ Upd k S S' := by
  obtain ⟨p, q, S1, e1, H1, U1, r⟩ := c_lstepU (n := 96) H 40 (by omega) (by omega)
  obtain ⟨w, S2, e2, H2, U2, w0, w1⟩ := c_draw (n := 98) H1 30 (by omega) (by omega)
  obtain ⟨wn, rfl⟩ := Int.eq_ofNat_of_zero_le w0
  have U := U1.trans U2
  have hO2 : S2.O.all Lv.still = true := by
    obtain ⟨xs, rfl⟩ := U
    exact hO
  have y3 := c_rows23 (n := 92) (S := S2) r (wn + 1) (by omega) (by omega) hO2
  rw [show ((wn + 1 + 1 : Nat) : Int) = 2 + (wn : Int) by omega] at y3
  exact ⟨S2, rturn23_ok _ s y0 e1 e2 y3, H2, U⟩
theorem b_law23_ok (c : CallT) {S0 S1 S2 S3 S4 : Store} {s3 s4 : Sl} (X : D) (h1 : c 89 [X] S0 = .ok (.ptr 0) S1) (h2 : c 359 [] S1 = .ok (.bl true) S1) (h3 : c 358 [.ptr 0] S1 = .ok (.bl true) S2)
    (h4 : forL (.nm 2) (w_law_v24_1 c) (rngL 0 6) [some X, some (.ptr 0), none, none, none, none] S2 = some (.nx s3, S3)) (h5 : forL (.nm 2) (w_law_v24_2 c) (rngL 0 3) s3 S3 = some (.nx s4, S4)) :
    b_law_v24 c [some X, none, none, none, none, none] S0 = some (.ret (.bl true), S4) := by
  have i6 : iRng1 [.int 6] = some (rngL 0 6) := rfl
  have i3 : iRng1 [.int 3] = some (rngL 0 3) := rfl
  simp [b_law_v24, h1, h2, h3, i6, h4, i3, h5]
end
theorem law_k23 (ns : List Int) (hl : ns.length ≤ 63) : ∃ S, callN Lib 100 360 [.src ns] ⟨[], []⟩ = .ok (.bl true) S := by
  obtain ⟨h, e1, ok⟩ := c_hand (n := 98) (S := ⟨[], []⟩) ns
  have H1 : Hd 0 ((⟨[], []⟩ : Store).new h.d) := ⟨h, get_new_self, ok⟩
  have rf : ∃ S', callN Lib 99 358 [.ptr 0] ((⟨[], []⟩ : Store).new h.d) = .ok (.bl true) S' ∧ Hd 0 S' ∧ Upd 0 ((⟨[], []⟩ : Store).new h.d) S' := c_refused23 H1
  obtain ⟨S2, e2, H2, U2⟩ := rf
  have hO2 : S2.O.all Lv.still = true := by
    obtain ⟨xs, rfl⟩ := U2
    rfl
  obtain ⟨s3, S3, e3, ⟨y2, y3, y4, y5, es⟩, H3, hO3⟩ := for_ix (p := .nm 2) (b := w_law_v24_1 (callN Lib 99)) (fun _ s S => (∃ y2 y3 y4 y5, s = [some (.src ns), some (.ptr 0), y2, y3, y4, y5]) ∧ Hd 0 S ∧ S.O.all Lv.still = true) (rngL 0 6) 0
    [some (.src ns), some (.ptr 0), none, none, none, none] S2 (fun _ d s S _ ⟨⟨y2, y3, y4, y5, es⟩, H, hO⟩ => by
      subst es
      obtain ⟨z3, z4, z5, S', e, H', U⟩ := c_turn23 H hO (.src ns) (some d) y3 y4 y5
      refine ⟨_, rfl, _, S', e, ⟨_, _, _, _, rfl⟩, H', ?_⟩
      obtain ⟨xs, rfl⟩ := U
      exact hO) ⟨⟨none, none, none, none, rfl⟩, H2, hO2⟩
  subst es
  obtain ⟨s4, S4, e4, _⟩ := for_ix (p := .nm 2) (b := w_law_v24_2 (callN Lib 99)) (fun _ s S => s[1]? = some (some (.ptr 0)) ∧ Hd 0 S ∧ S.O.all Lv.still = true) (rngL 0 3) 0
    [some (.src ns), some (.ptr 0), y2, y3, y4, y5] S3 (fun _ d s S _ ⟨y0, H, hO⟩ => by
      have z : (s.set 2 (some d))[1]? = some (some (.ptr 0)) := by rw [List.getElem?_set_ne (by decide)]; exact y0
      obtain ⟨S', e, H', U⟩ := c_rturn23 H hO (s.set 2 (some d)) z
      refine ⟨_, rfl, _, S', e, z, H', ?_⟩
      obtain ⟨xs, rfl⟩ := U
      exact hO) ⟨rfl, H3, hO3⟩
  refine ⟨S4, ?_⟩
  rw [callN_eq (n := 99) (d := f_law_v24) rfl]
  exact run_keep rfl (b_law23_ok _ (.src ns) e1 c_known23 e2 e3 e4)
end Q
namespace HD
open PySem PySem.Spec PyProof.Rows L2 Q
def top (i : Nat) : Stmt := PySem.Challenge.pw_evenduties_k23_whole_marks_and_arcs.main.body.getD i (.Pass ⟨0, 0, 0, 0⟩)
abbrev s_is_integer : Stmt := top 3
abbrev s_is_within : Stmt := top 4
abbrev s_is_tuple_of : Stmt := top 5
abbrev s_common : Stmt := top 6
abbrev s_is_fraction : Stmt := top 7
abbrev s_frac : Stmt := top 8
abbrev s_less : Stmt := top 9
abbrev s_is_line : Stmt := top 21
abbrev s_is_rule : Stmt := top 22
abbrev s_check_rule : Stmt := top 23
abbrev s_total_to : Stmt := top 24
abbrev s_row_of : Stmt := top 25
abbrev s_made : Stmt := top 26
abbrev s_check_marks : Stmt := top 29
abbrev s_places : Stmt := top 30
abbrev s_marks : Stmt := top 31
abbrev s_arcs : Stmt := top 32
abbrev s_law_hand : Stmt := top 34
abbrev s_law_draw : Stmt := top 35
abbrev s_law_any : Stmt := top 36
abbrev s_law_is : Stmt := top 37
abbrev s_law_gcd : Stmt := top 38
abbrev s_law_frac : Stmt := top 39
abbrev s_law_until : Stmt := top 40
abbrev s_law_by : Stmt := top 41
abbrev s_law_step : Stmt := top 42
abbrev s_law_spots : Stmt := top 43
abbrev s_law_far : Stmt := top 44
abbrev s_law_told_right : Stmt := top 45
abbrev s_law_rows_right : Stmt := top 46
abbrev s_law_drawn_step : Stmt := top 47
abbrev s_law_word : Stmt := top 48
abbrev s_law_refused_right : Stmt := top 49
abbrev s_law_known_right : Stmt := top 50
abbrev s_law : Stmt := top 51
def d_is_integer : He.DefD := ⟨("is_integer", none), "is_integer", "is_integer", defArgs s_is_integer, defBody s_is_integer, defScope s_is_integer, [], []⟩
def d_is_within : He.DefD := ⟨("is_within", none), "is_within", "is_within", defArgs s_is_within, defBody s_is_within, defScope s_is_within, [], []⟩
def d_is_tuple_of : He.DefD := ⟨("is_tuple_of", none), "is_tuple_of", "is_tuple_of", defArgs s_is_tuple_of, defBody s_is_tuple_of, defScope s_is_tuple_of, [], []⟩
def d_common : He.DefD := ⟨("common", none), "common", "common", defArgs s_common, defBody s_common, defScope s_common, [], []⟩
def d_is_fraction : He.DefD := ⟨("is_fraction", none), "is_fraction", "is_fraction", defArgs s_is_fraction, defBody s_is_fraction, defScope s_is_fraction, [], []⟩
def d_frac : He.DefD := ⟨("frac", none), "frac", "frac", defArgs s_frac, defBody s_frac, defScope s_frac, [], []⟩
def d_less : He.DefD := ⟨("less", none), "less", "less", defArgs s_less, defBody s_less, defScope s_less, [], []⟩
def d_is_line : He.DefD := ⟨("is_line", none), "is_line", "is_line", defArgs s_is_line, defBody s_is_line, defScope s_is_line, [], []⟩
def d_is_rule : He.DefD := ⟨("is_rule", none), "is_rule", "is_rule", defArgs s_is_rule, defBody s_is_rule, defScope s_is_rule, [], []⟩
def d_check_rule : He.DefD := ⟨("check_rule", none), "check_rule", "check_rule", defArgs s_check_rule, defBody s_check_rule, defScope s_check_rule, [], []⟩
def d_total_to : He.DefD := ⟨("total_to", none), "total_to", "total_to", defArgs s_total_to, defBody s_total_to, defScope s_total_to, [], []⟩
def d_row_of : He.DefD := ⟨("row_of", none), "row_of", "row_of", defArgs s_row_of, defBody s_row_of, defScope s_row_of, [], []⟩
def d_made : He.DefD := ⟨("made", none), "made", "made", defArgs s_made, defBody s_made, defScope s_made, [], []⟩
def d_check_marks : He.DefD := ⟨("check_marks", none), "check_marks", "check_marks", defArgs s_check_marks, defBody s_check_marks, defScope s_check_marks, [], []⟩
def d_places : He.DefD := ⟨("places", none), "places", "places", defArgs s_places, defBody s_places, defScope s_places, [], []⟩
def d_marks : He.DefD := ⟨("marks", none), "marks", "marks", defArgs s_marks, defBody s_marks, defScope s_marks, [], []⟩
def d_arcs : He.DefD := ⟨("arcs", none), "arcs", "arcs", defArgs s_arcs, defBody s_arcs, defScope s_arcs, [], []⟩
def d_law_hand : He.DefD := ⟨("_law_hand", none), "_law_hand", "_law_hand", defArgs s_law_hand, defBody s_law_hand, defScope s_law_hand, [], []⟩
def d_law_draw : He.DefD := ⟨("_law_draw", none), "_law_draw", "_law_draw", defArgs s_law_draw, defBody s_law_draw, defScope s_law_draw, [], []⟩
def d_law_any : He.DefD := ⟨("_law_any", none), "_law_any", "_law_any", defArgs s_law_any, defBody s_law_any, defScope s_law_any, [], []⟩
def d_law_is : He.DefD := ⟨("_law_is", none), "_law_is", "_law_is", defArgs s_law_is, defBody s_law_is, defScope s_law_is, [], []⟩
def d_law_gcd : He.DefD := ⟨("_law_gcd", none), "_law_gcd", "_law_gcd", defArgs s_law_gcd, defBody s_law_gcd, defScope s_law_gcd, [], []⟩
def d_law_frac : He.DefD := ⟨("_law_frac", none), "_law_frac", "_law_frac", defArgs s_law_frac, defBody s_law_frac, defScope s_law_frac, [], []⟩
def d_law_until : He.DefD := ⟨("_law_until", none), "_law_until", "_law_until", defArgs s_law_until, defBody s_law_until, defScope s_law_until, [], []⟩
def d_law_by : He.DefD := ⟨("_law_by", none), "_law_by", "_law_by", defArgs s_law_by, defBody s_law_by, defScope s_law_by, [], []⟩
def d_law_step : He.DefD := ⟨("_law_step", none), "_law_step", "_law_step", defArgs s_law_step, defBody s_law_step, defScope s_law_step, [], []⟩
def d_law_spots : He.DefD := ⟨("_law_spots", none), "_law_spots", "_law_spots", defArgs s_law_spots, defBody s_law_spots, defScope s_law_spots, [], []⟩
def d_law_far : He.DefD := ⟨("_law_far", none), "_law_far", "_law_far", defArgs s_law_far, defBody s_law_far, defScope s_law_far, [], []⟩
def d_law_told_right : He.DefD := ⟨("_law_told_right", none), "_law_told_right", "_law_told_right", defArgs s_law_told_right, defBody s_law_told_right, defScope s_law_told_right, [], []⟩
def d_law_rows_right : He.DefD := ⟨("_law_rows_right", none), "_law_rows_right", "_law_rows_right", defArgs s_law_rows_right, defBody s_law_rows_right, defScope s_law_rows_right, [], []⟩
def d_law_drawn_step : He.DefD := ⟨("_law_drawn_step", none), "_law_drawn_step", "_law_drawn_step", defArgs s_law_drawn_step, defBody s_law_drawn_step, defScope s_law_drawn_step, [], []⟩
def d_law_word : He.DefD := ⟨("_law_word", none), "_law_word", "_law_word", defArgs s_law_word, defBody s_law_word, defScope s_law_word, [], []⟩
def d_law_refused_right : He.DefD := ⟨("_law_refused_right", none), "_law_refused_right", "_law_refused_right", defArgs s_law_refused_right, defBody s_law_refused_right, defScope s_law_refused_right, [], []⟩
def d_law_known_right : He.DefD := ⟨("_law_known_right", none), "_law_known_right", "_law_known_right", defArgs s_law_known_right, defBody s_law_known_right, defScope s_law_known_right, [], []⟩
def d_law : He.DefD := ⟨("law", none), "law", "law", defArgs s_law, defBody s_law, defScope s_law, [], []⟩
def fn : List He.DefD := [d_is_integer, d_is_within, d_is_tuple_of, d_common, d_is_fraction, d_frac, d_less, d_is_line, d_is_rule, d_check_rule, d_total_to, d_row_of, d_made, d_check_marks, d_places, d_marks, d_arcs, d_law_hand, d_law_draw, d_law_any, d_law_is, d_law_gcd, d_law_frac, d_law_until, d_law_by, d_law_step, d_law_spots, d_law_far, d_law_told_right, d_law_rows_right, d_law_drawn_step, d_law_word, d_law_refused_right, d_law_known_right, d_law]
def fa : List He.Fa := [.glo "is_integer", .glo "is_within", .glo "is_tuple_of", .glo "common", .glo "is_fraction", .glo "frac", .glo "less", .glo "is_line", .glo "is_rule", .glo "check_rule", .glo "total_to", .glo "row_of", .glo "made", .glo "check_marks", .glo "places", .glo "marks", .glo "arcs", .glo "_law_hand", .glo "_law_draw", .glo "_law_any", .glo "_law_is", .glo "_law_gcd", .glo "_law_frac", .glo "_law_until", .glo "_law_by", .glo "_law_step", .glo "_law_spots", .glo "_law_far", .glo "_law_told_right", .glo "_law_rows_right", .glo "_law_drawn_step", .glo "_law_word", .glo "_law_refused_right", .glo "_law_known_right", .glo "law", .free "len", .free "int", .free "abs", .free "isinstance", .free "range", .free "max", .free "min", .free "all", .free "zip", .free "tuple", .free "list", .free "str", .free "bool", .free "sum", .free "sorted", .free "dict", .glo "ZERO", .glo "ONE", .int "MOST_DAYS" 500, .str "FREE" "0", .str "DUTY" "1", .int "MOST_BOTTOM" 10000, .int "MOST_DAY" 1000000000000, .int "MOST_MARKS" 500, .glo "DutyError", .glo "BadNumber", .glo "BadRule", .glo "BadStep"]
def tf : List (Str × Option Str) := [("_law_refused_right", none)]
def tabs (K : PySem.W.Frag) : List (Addr × Str) := [((He.cT K ("_law_refused_right", none)).2, ("_law_refused_right" ++ ".<locals>.") ++ "<lambda>")]
def ex (K : PySem.W.Frag) : Bool := (He.tupB K "ZERO" [.int 0, .int 1] && (He.tupB K "ONE" [.int 1, .int 1] && (ecB K (He.ga K "BadNumber") && (ecB K (He.ga K "BadRule") && (ecB K (He.ga K "BadStep") && (exmB K [3, 5, 7] [0] && (excsB K [3, 5, 7] && (kiB K [3, 5, 7] 3 && (kiB K [3, 5, 7] 7 && (tabsU (tabs K) && true))))))))))
abbrev R : PySem.W.OpenRow := PySem.W.OpenLaw.row PySem.Challenge.rw_evenduties_k23_whole_marks_and_arcs
abbrev hk : PySem.W.Hook := He.hookX 4 fa fn [] tf ex
def ob (s : PySem.W.SharedT) : He.AlX := He.obsX 4 fa fn [] tf ex (HandSHeadRun.getT s)
theorem ob_eq (s : PySem.W.SharedT) : ob s = hk.obs s.abs := He.obsX_eq (HandSHeadRun.getT_eq s)
def loose0 : List PySem.Str := ["__name__", "ZERO", "ONE", "is_integer", "is_within", "is_tuple_of", "common", "is_fraction", "frac", "less", "DutyError", "BadNumber", "BadRule", "BadStep", "MOST_DAYS", "FREE", "DUTY", "MOST_BOTTOM", "MOST_DAY", "is_line", "is_rule", "check_rule", "total_to", "row_of", "made", "MOST_MARKS", "check_marks", "places", "marks", "arcs"]
def loose1 : List PySem.Str := ["_law_hand", "_law_draw", "_law_any", "_law_is", "_law_gcd", "_law_frac", "_law_until", "_law_by", "_law_step", "_law_spots", "_law_far", "_law_told_right", "_law_rows_right", "_law_drawn_step", "_law_word", "_law_refused_right", "_law_known_right"]
def loose : List PySem.Str := loose0 ++ loose1
set_option maxHeartbeats 0 in
theorem run (w : World) : HandSHeadRun.RunEq R (PySem.W.view R.prog [51]) hk ob 4000 loose w := by
  intro os
  kernel_rfl
structure Fx (K : PySem.W.Frag) (mg : Str → Option Value) : Prop where
  g_is_integer : mg "is_integer" = some (.ref (He.ga K "is_integer"))
  d_is_integer : ∃ fd, FunD K "is_integer" "is_integer" (defArgs s_is_integer) (defBody s_is_integer) (defScope s_is_integer) [] [] (He.ga K "is_integer") fd
  g_is_within : mg "is_within" = some (.ref (He.ga K "is_within"))
  d_is_within : ∃ fd, FunD K "is_within" "is_within" (defArgs s_is_within) (defBody s_is_within) (defScope s_is_within) [] [] (He.ga K "is_within") fd
  g_is_tuple_of : mg "is_tuple_of" = some (.ref (He.ga K "is_tuple_of"))
  d_is_tuple_of : ∃ fd, FunD K "is_tuple_of" "is_tuple_of" (defArgs s_is_tuple_of) (defBody s_is_tuple_of) (defScope s_is_tuple_of) [] [] (He.ga K "is_tuple_of") fd
  g_common : mg "common" = some (.ref (He.ga K "common"))
  d_common : ∃ fd, FunD K "common" "common" (defArgs s_common) (defBody s_common) (defScope s_common) [] [] (He.ga K "common") fd
  g_is_fraction : mg "is_fraction" = some (.ref (He.ga K "is_fraction"))
  d_is_fraction : ∃ fd, FunD K "is_fraction" "is_fraction" (defArgs s_is_fraction) (defBody s_is_fraction) (defScope s_is_fraction) [] [] (He.ga K "is_fraction") fd
  g_frac : mg "frac" = some (.ref (He.ga K "frac"))
  d_frac : ∃ fd, FunD K "frac" "frac" (defArgs s_frac) (defBody s_frac) (defScope s_frac) [] [] (He.ga K "frac") fd
  g_less : mg "less" = some (.ref (He.ga K "less"))
  d_less : ∃ fd, FunD K "less" "less" (defArgs s_less) (defBody s_less) (defScope s_less) [] [] (He.ga K "less") fd
  g_is_line : mg "is_line" = some (.ref (He.ga K "is_line"))
  d_is_line : ∃ fd, FunD K "is_line" "is_line" (defArgs s_is_line) (defBody s_is_line) (defScope s_is_line) [] [] (He.ga K "is_line") fd
  g_is_rule : mg "is_rule" = some (.ref (He.ga K "is_rule"))
  d_is_rule : ∃ fd, FunD K "is_rule" "is_rule" (defArgs s_is_rule) (defBody s_is_rule) (defScope s_is_rule) [] [] (He.ga K "is_rule") fd
  g_check_rule : mg "check_rule" = some (.ref (He.ga K "check_rule"))
  d_check_rule : ∃ fd, FunD K "check_rule" "check_rule" (defArgs s_check_rule) (defBody s_check_rule) (defScope s_check_rule) [] [] (He.ga K "check_rule") fd
  g_total_to : mg "total_to" = some (.ref (He.ga K "total_to"))
  d_total_to : ∃ fd, FunD K "total_to" "total_to" (defArgs s_total_to) (defBody s_total_to) (defScope s_total_to) [] [] (He.ga K "total_to") fd
  g_row_of : mg "row_of" = some (.ref (He.ga K "row_of"))
  d_row_of : ∃ fd, FunD K "row_of" "row_of" (defArgs s_row_of) (defBody s_row_of) (defScope s_row_of) [] [] (He.ga K "row_of") fd
  g_made : mg "made" = some (.ref (He.ga K "made"))
  d_made : ∃ fd, FunD K "made" "made" (defArgs s_made) (defBody s_made) (defScope s_made) [] [] (He.ga K "made") fd
  g_check_marks : mg "check_marks" = some (.ref (He.ga K "check_marks"))
  d_check_marks : ∃ fd, FunD K "check_marks" "check_marks" (defArgs s_check_marks) (defBody s_check_marks) (defScope s_check_marks) [] [] (He.ga K "check_marks") fd
  g_places : mg "places" = some (.ref (He.ga K "places"))
  d_places : ∃ fd, FunD K "places" "places" (defArgs s_places) (defBody s_places) (defScope s_places) [] [] (He.ga K "places") fd
  g_marks : mg "marks" = some (.ref (He.ga K "marks"))
  d_marks : ∃ fd, FunD K "marks" "marks" (defArgs s_marks) (defBody s_marks) (defScope s_marks) [] [] (He.ga K "marks") fd
  g_arcs : mg "arcs" = some (.ref (He.ga K "arcs"))
  d_arcs : ∃ fd, FunD K "arcs" "arcs" (defArgs s_arcs) (defBody s_arcs) (defScope s_arcs) [] [] (He.ga K "arcs") fd
  g_law_hand : mg "_law_hand" = some (.ref (He.ga K "_law_hand"))
  d_law_hand : ∃ fd, FunD K "_law_hand" "_law_hand" (defArgs s_law_hand) (defBody s_law_hand) (defScope s_law_hand) [] [] (He.ga K "_law_hand") fd
  g_law_draw : mg "_law_draw" = some (.ref (He.ga K "_law_draw"))
  d_law_draw : ∃ fd, FunD K "_law_draw" "_law_draw" (defArgs s_law_draw) (defBody s_law_draw) (defScope s_law_draw) [] [] (He.ga K "_law_draw") fd
  g_law_any : mg "_law_any" = some (.ref (He.ga K "_law_any"))
  d_law_any : ∃ fd, FunD K "_law_any" "_law_any" (defArgs s_law_any) (defBody s_law_any) (defScope s_law_any) [] [] (He.ga K "_law_any") fd
  g_law_is : mg "_law_is" = some (.ref (He.ga K "_law_is"))
  d_law_is : ∃ fd, FunD K "_law_is" "_law_is" (defArgs s_law_is) (defBody s_law_is) (defScope s_law_is) [] [] (He.ga K "_law_is") fd
  g_law_gcd : mg "_law_gcd" = some (.ref (He.ga K "_law_gcd"))
  d_law_gcd : ∃ fd, FunD K "_law_gcd" "_law_gcd" (defArgs s_law_gcd) (defBody s_law_gcd) (defScope s_law_gcd) [] [] (He.ga K "_law_gcd") fd
  g_law_frac : mg "_law_frac" = some (.ref (He.ga K "_law_frac"))
  d_law_frac : ∃ fd, FunD K "_law_frac" "_law_frac" (defArgs s_law_frac) (defBody s_law_frac) (defScope s_law_frac) [] [] (He.ga K "_law_frac") fd
  g_law_until : mg "_law_until" = some (.ref (He.ga K "_law_until"))
  d_law_until : ∃ fd, FunD K "_law_until" "_law_until" (defArgs s_law_until) (defBody s_law_until) (defScope s_law_until) [] [] (He.ga K "_law_until") fd
  g_law_by : mg "_law_by" = some (.ref (He.ga K "_law_by"))
  d_law_by : ∃ fd, FunD K "_law_by" "_law_by" (defArgs s_law_by) (defBody s_law_by) (defScope s_law_by) [] [] (He.ga K "_law_by") fd
  g_law_step : mg "_law_step" = some (.ref (He.ga K "_law_step"))
  d_law_step : ∃ fd, FunD K "_law_step" "_law_step" (defArgs s_law_step) (defBody s_law_step) (defScope s_law_step) [] [] (He.ga K "_law_step") fd
  g_law_spots : mg "_law_spots" = some (.ref (He.ga K "_law_spots"))
  d_law_spots : ∃ fd, FunD K "_law_spots" "_law_spots" (defArgs s_law_spots) (defBody s_law_spots) (defScope s_law_spots) [] [] (He.ga K "_law_spots") fd
  g_law_far : mg "_law_far" = some (.ref (He.ga K "_law_far"))
  d_law_far : ∃ fd, FunD K "_law_far" "_law_far" (defArgs s_law_far) (defBody s_law_far) (defScope s_law_far) [] [] (He.ga K "_law_far") fd
  g_law_told_right : mg "_law_told_right" = some (.ref (He.ga K "_law_told_right"))
  d_law_told_right : ∃ fd, FunD K "_law_told_right" "_law_told_right" (defArgs s_law_told_right) (defBody s_law_told_right) (defScope s_law_told_right) [] [] (He.ga K "_law_told_right") fd
  g_law_rows_right : mg "_law_rows_right" = some (.ref (He.ga K "_law_rows_right"))
  d_law_rows_right : ∃ fd, FunD K "_law_rows_right" "_law_rows_right" (defArgs s_law_rows_right) (defBody s_law_rows_right) (defScope s_law_rows_right) [] [] (He.ga K "_law_rows_right") fd
  g_law_drawn_step : mg "_law_drawn_step" = some (.ref (He.ga K "_law_drawn_step"))
  d_law_drawn_step : ∃ fd, FunD K "_law_drawn_step" "_law_drawn_step" (defArgs s_law_drawn_step) (defBody s_law_drawn_step) (defScope s_law_drawn_step) [] [] (He.ga K "_law_drawn_step") fd
  g_law_word : mg "_law_word" = some (.ref (He.ga K "_law_word"))
  d_law_word : ∃ fd, FunD K "_law_word" "_law_word" (defArgs s_law_word) (defBody s_law_word) (defScope s_law_word) [] [] (He.ga K "_law_word") fd
  g_law_refused_right : mg "_law_refused_right" = some (.ref (He.ga K "_law_refused_right"))
  d_law_refused_right : ∃ fd, FunD K "_law_refused_right" "_law_refused_right" (defArgs s_law_refused_right) (defBody s_law_refused_right) (defScope s_law_refused_right) [] [] (He.ga K "_law_refused_right") fd
  g_law_known_right : mg "_law_known_right" = some (.ref (He.ga K "_law_known_right"))
  d_law_known_right : ∃ fd, FunD K "_law_known_right" "_law_known_right" (defArgs s_law_known_right) (defBody s_law_known_right) (defScope s_law_known_right) [] [] (He.ga K "_law_known_right") fd
  g_law : mg "law" = some (.ref (He.ga K "law"))
  d_law : ∃ fd, FunD K "law" "law" (defArgs s_law) (defBody s_law) (defScope s_law) [] [] (He.ga K "law") fd
  b_len : mg "len" = none
  b_int : mg "int" = none
  b_abs : mg "abs" = none
  b_isinstance : mg "isinstance" = none
  b_range : mg "range" = none
  b_max : mg "max" = none
  b_min : mg "min" = none
  b_all : mg "all" = none
  b_zip : mg "zip" = none
  b_tuple : mg "tuple" = none
  b_list : mg "list" = none
  b_str : mg "str" = none
  b_bool : mg "bool" = none
  b_sum : mg "sum" = none
  b_sorted : mg "sorted" = none
  b_dict : mg "dict" = none
  c_ZERO : ∃ a, mg "ZERO" = some (.ref a) ∧ ∀ H, SqT K H a [.int 0, .int 1]
  c_ONE : ∃ a, mg "ONE" = some (.ref a) ∧ ∀ H, SqT K H a [.int 1, .int 1]
  c_MOST_DAYS : ∃ t, mg "MOST_DAYS" = some (.int 500 t)
  c_FREE : ∃ t, mg "FREE" = some (.str "0" t)
  c_DUTY : ∃ t, mg "DUTY" = some (.str "1" t)
  c_MOST_BOTTOM : ∃ t, mg "MOST_BOTTOM" = some (.int 10000 t)
  c_MOST_DAY : ∃ t, mg "MOST_DAY" = some (.int 1000000000000 t)
  c_MOST_MARKS : ∃ t, mg "MOST_MARKS" = some (.int 500 t)
  k_DutyError : mg "DutyError" = some (.ref (He.ga K "DutyError"))
  k_BadNumber : mg "BadNumber" = some (.ref (He.ga K "BadNumber"))
  k_BadRule : mg "BadRule" = some (.ref (He.ga K "BadRule"))
  k_BadStep : mg "BadStep" = some (.ref (He.ga K "BadStep"))
  e_BadNumber : EC K mg "BadNumber" (He.ga K "BadNumber")
  e_BadRule : EC K mg "BadRule" (He.ga K "BadRule")
  e_BadStep : EC K mg "BadStep" (He.ga K "BadStep")
  m_3a5a7_0 : exmB K [3, 5, 7] [0] = true
  x_3a5a7 : excsB K [3, 5, 7] = true
  i_3a5a7_3 : kiB K [3, 5, 7] 3 = true
  i_3a5a7_7 : kiB K [3, 5, 7] 7 = true
  u : tabsU (tabs K) = true
theorem facts {K : PySem.W.Frag} {h : Heap} {mg : Str → Option Value} (X : K.In h) (G : h.Ns mainGlobals mg) (c : He.SaysD fa fn K) (e : ex K = true) : Fx K mg where
  g_is_integer := He.glo_ok X G (c.fact 0 (f := .glo "is_integer") rfl)
  d_is_integer := c.def_ 0 (d := d_is_integer) rfl
  g_is_within := He.glo_ok X G (c.fact 1 (f := .glo "is_within") rfl)
  d_is_within := c.def_ 1 (d := d_is_within) rfl
  g_is_tuple_of := He.glo_ok X G (c.fact 2 (f := .glo "is_tuple_of") rfl)
  d_is_tuple_of := c.def_ 2 (d := d_is_tuple_of) rfl
  g_common := He.glo_ok X G (c.fact 3 (f := .glo "common") rfl)
  d_common := c.def_ 3 (d := d_common) rfl
  g_is_fraction := He.glo_ok X G (c.fact 4 (f := .glo "is_fraction") rfl)
  d_is_fraction := c.def_ 4 (d := d_is_fraction) rfl
  g_frac := He.glo_ok X G (c.fact 5 (f := .glo "frac") rfl)
  d_frac := c.def_ 5 (d := d_frac) rfl
  g_less := He.glo_ok X G (c.fact 6 (f := .glo "less") rfl)
  d_less := c.def_ 6 (d := d_less) rfl
  g_is_line := He.glo_ok X G (c.fact 7 (f := .glo "is_line") rfl)
  d_is_line := c.def_ 7 (d := d_is_line) rfl
  g_is_rule := He.glo_ok X G (c.fact 8 (f := .glo "is_rule") rfl)
  d_is_rule := c.def_ 8 (d := d_is_rule) rfl
  g_check_rule := He.glo_ok X G (c.fact 9 (f := .glo "check_rule") rfl)
  d_check_rule := c.def_ 9 (d := d_check_rule) rfl
  g_total_to := He.glo_ok X G (c.fact 10 (f := .glo "total_to") rfl)
  d_total_to := c.def_ 10 (d := d_total_to) rfl
  g_row_of := He.glo_ok X G (c.fact 11 (f := .glo "row_of") rfl)
  d_row_of := c.def_ 11 (d := d_row_of) rfl
  g_made := He.glo_ok X G (c.fact 12 (f := .glo "made") rfl)
  d_made := c.def_ 12 (d := d_made) rfl
  g_check_marks := He.glo_ok X G (c.fact 13 (f := .glo "check_marks") rfl)
  d_check_marks := c.def_ 13 (d := d_check_marks) rfl
  g_places := He.glo_ok X G (c.fact 14 (f := .glo "places") rfl)
  d_places := c.def_ 14 (d := d_places) rfl
  g_marks := He.glo_ok X G (c.fact 15 (f := .glo "marks") rfl)
  d_marks := c.def_ 15 (d := d_marks) rfl
  g_arcs := He.glo_ok X G (c.fact 16 (f := .glo "arcs") rfl)
  d_arcs := c.def_ 16 (d := d_arcs) rfl
  g_law_hand := He.glo_ok X G (c.fact 17 (f := .glo "_law_hand") rfl)
  d_law_hand := c.def_ 17 (d := d_law_hand) rfl
  g_law_draw := He.glo_ok X G (c.fact 18 (f := .glo "_law_draw") rfl)
  d_law_draw := c.def_ 18 (d := d_law_draw) rfl
  g_law_any := He.glo_ok X G (c.fact 19 (f := .glo "_law_any") rfl)
  d_law_any := c.def_ 19 (d := d_law_any) rfl
  g_law_is := He.glo_ok X G (c.fact 20 (f := .glo "_law_is") rfl)
  d_law_is := c.def_ 20 (d := d_law_is) rfl
  g_law_gcd := He.glo_ok X G (c.fact 21 (f := .glo "_law_gcd") rfl)
  d_law_gcd := c.def_ 21 (d := d_law_gcd) rfl
  g_law_frac := He.glo_ok X G (c.fact 22 (f := .glo "_law_frac") rfl)
  d_law_frac := c.def_ 22 (d := d_law_frac) rfl
  g_law_until := He.glo_ok X G (c.fact 23 (f := .glo "_law_until") rfl)
  d_law_until := c.def_ 23 (d := d_law_until) rfl
  g_law_by := He.glo_ok X G (c.fact 24 (f := .glo "_law_by") rfl)
  d_law_by := c.def_ 24 (d := d_law_by) rfl
  g_law_step := He.glo_ok X G (c.fact 25 (f := .glo "_law_step") rfl)
  d_law_step := c.def_ 25 (d := d_law_step) rfl
  g_law_spots := He.glo_ok X G (c.fact 26 (f := .glo "_law_spots") rfl)
  d_law_spots := c.def_ 26 (d := d_law_spots) rfl
  g_law_far := He.glo_ok X G (c.fact 27 (f := .glo "_law_far") rfl)
  d_law_far := c.def_ 27 (d := d_law_far) rfl
  g_law_told_right := He.glo_ok X G (c.fact 28 (f := .glo "_law_told_right") rfl)
  d_law_told_right := c.def_ 28 (d := d_law_told_right) rfl
  g_law_rows_right := He.glo_ok X G (c.fact 29 (f := .glo "_law_rows_right") rfl)
  d_law_rows_right := c.def_ 29 (d := d_law_rows_right) rfl
  g_law_drawn_step := He.glo_ok X G (c.fact 30 (f := .glo "_law_drawn_step") rfl)
  d_law_drawn_step := c.def_ 30 (d := d_law_drawn_step) rfl
  g_law_word := He.glo_ok X G (c.fact 31 (f := .glo "_law_word") rfl)
  d_law_word := c.def_ 31 (d := d_law_word) rfl
  g_law_refused_right := He.glo_ok X G (c.fact 32 (f := .glo "_law_refused_right") rfl)
  d_law_refused_right := c.def_ 32 (d := d_law_refused_right) rfl
  g_law_known_right := He.glo_ok X G (c.fact 33 (f := .glo "_law_known_right") rfl)
  d_law_known_right := c.def_ 33 (d := d_law_known_right) rfl
  g_law := He.glo_ok X G (c.fact 34 (f := .glo "law") rfl)
  d_law := c.def_ 34 (d := d_law) rfl
  b_len := He.free_ok X G (c.fact 35 (f := .free "len") rfl)
  b_int := He.free_ok X G (c.fact 36 (f := .free "int") rfl)
  b_abs := He.free_ok X G (c.fact 37 (f := .free "abs") rfl)
  b_isinstance := He.free_ok X G (c.fact 38 (f := .free "isinstance") rfl)
  b_range := He.free_ok X G (c.fact 39 (f := .free "range") rfl)
  b_max := He.free_ok X G (c.fact 40 (f := .free "max") rfl)
  b_min := He.free_ok X G (c.fact 41 (f := .free "min") rfl)
  b_all := He.free_ok X G (c.fact 42 (f := .free "all") rfl)
  b_zip := He.free_ok X G (c.fact 43 (f := .free "zip") rfl)
  b_tuple := He.free_ok X G (c.fact 44 (f := .free "tuple") rfl)
  b_list := He.free_ok X G (c.fact 45 (f := .free "list") rfl)
  b_str := He.free_ok X G (c.fact 46 (f := .free "str") rfl)
  b_bool := He.free_ok X G (c.fact 47 (f := .free "bool") rfl)
  b_sum := He.free_ok X G (c.fact 48 (f := .free "sum") rfl)
  b_sorted := He.free_ok X G (c.fact 49 (f := .free "sorted") rfl)
  b_dict := He.free_ok X G (c.fact 50 (f := .free "dict") rfl)
  c_ZERO := ⟨_, He.glo_ok X G (c.fact 51 (f := .glo "ZERO") rfl), fun H => He.tupB_ok (He.ba e).1 H⟩
  c_ONE := ⟨_, He.glo_ok X G (c.fact 52 (f := .glo "ONE") rfl), fun H => He.tupB_ok (He.ba (He.ba e).2).1 H⟩
  c_MOST_DAYS := He.int_ok X G (c.fact 53 (f := .int "MOST_DAYS" 500) rfl)
  c_FREE := He.str_ok X G (c.fact 54 (f := .str "FREE" "0") rfl)
  c_DUTY := He.str_ok X G (c.fact 55 (f := .str "DUTY" "1") rfl)
  c_MOST_BOTTOM := He.int_ok X G (c.fact 56 (f := .int "MOST_BOTTOM" 10000) rfl)
  c_MOST_DAY := He.int_ok X G (c.fact 57 (f := .int "MOST_DAY" 1000000000000) rfl)
  c_MOST_MARKS := He.int_ok X G (c.fact 58 (f := .int "MOST_MARKS" 500) rfl)
  k_DutyError := He.glo_ok X G (c.fact 59 (f := .glo "DutyError") rfl)
  k_BadNumber := He.glo_ok X G (c.fact 60 (f := .glo "BadNumber") rfl)
  e_BadNumber := ecB_ok (He.glo_ok X G (c.fact 60 (f := .glo "BadNumber") rfl)) (He.ba (He.ba (He.ba e).2).2).1
  k_BadRule := He.glo_ok X G (c.fact 61 (f := .glo "BadRule") rfl)
  e_BadRule := ecB_ok (He.glo_ok X G (c.fact 61 (f := .glo "BadRule") rfl)) (He.ba (He.ba (He.ba (He.ba e).2).2).2).1
  k_BadStep := He.glo_ok X G (c.fact 62 (f := .glo "BadStep") rfl)
  e_BadStep := ecB_ok (He.glo_ok X G (c.fact 62 (f := .glo "BadStep") rfl)) (He.ba (He.ba (He.ba (He.ba (He.ba e).2).2).2).2).1
  m_3a5a7_0 := (He.ba (He.ba (He.ba (He.ba (He.ba (He.ba e).2).2).2).2).2).1
  x_3a5a7 := (He.ba (He.ba (He.ba (He.ba (He.ba (He.ba (He.ba e).2).2).2).2).2).2).1
  i_3a5a7_3 := (He.ba (He.ba (He.ba (He.ba (He.ba (He.ba (He.ba (He.ba e).2).2).2).2).2).2).2).1
  i_3a5a7_7 := (He.ba (He.ba (He.ba (He.ba (He.ba (He.ba (He.ba (He.ba (He.ba e).2).2).2).2).2).2).2).2).1
  u := (He.ba (He.ba (He.ba (He.ba (He.ba (He.ba (He.ba (He.ba (He.ba (He.ba e).2).2).2).2).2).2).2).2).2).1
def T (K : PySem.W.Frag) : Tx := { cl := fun c => He.ga K (ErrN c), fa := fun _ => 0, tabs := tabs K, pin := [], fld := fun _ => "pair" }
structure Tbs (K : PySem.W.Frag) (base : Heap) (mg : Str → Option Value) : Prop where
  mk0 : True
  tb_law_refused_right : LamX.TabB base mg (He.cT K ("_law_refused_right", none)).1 (He.cT K ("_law_refused_right", none)).2
structure All (P : Program) (w : World) (K : PySem.W.Frag) (mg : Str → Option Value) (base : Heap) (k : Nat) : Prop where
  o_is_integer : FnO P w K mg base (T K) Lib k 1 "is_integer" (He.ga K "is_integer") ["thing"]
  o_is_within : FnO P w K mg base (T K) Lib k 2 "is_within" (He.ga K "is_within") ["thing", "low", "high"]
  o_is_tuple_of : FnO P w K mg base (T K) Lib k 3 "is_tuple_of" (He.ga K "is_tuple_of") ["thing", "many"]
  o_common : FnO P w K mg base (T K) Lib k 4 "common" (He.ga K "common") ["one", "other"]
  o_is_fraction : FnO P w K mg base (T K) Lib k 5 "is_fraction" (He.ga K "is_fraction") ["thing"]
  o_frac : FnO P w K mg base (T K) Lib k 6 "frac" (He.ga K "frac") ["top", "bottom"]
  o_less : FnO P w K mg base (T K) Lib k 10 "less" (He.ga K "less") ["one", "other"]
  o_is_line : FnO P w K mg base (T K) Lib k 61 "is_line" (He.ga K "is_line") ["thing"]
  o_is_rule : FnO P w K mg base (T K) Lib k 62 "is_rule" (He.ga K "is_rule") ["thing"]
  o_check_rule : FnO P w K mg base (T K) Lib k 63 "check_rule" (He.ga K "check_rule") ["rule"]
  o_total_to : FnO P w K mg base (T K) Lib k 64 "total_to" (He.ga K "total_to") ["rule", "n"]
  o_row_of : FnO P w K mg base (T K) Lib k 65 "row_of" (He.ga K "row_of") ["rule", "first", "length"]
  o_made : FnO P w K mg base (T K) Lib k 66 "made" (He.ga K "made") ["rule", "first", "length"]
  o_check_marks : FnO P w K mg base (T K) Lib k 76 "check_marks" (He.ga K "check_marks") ["step", "n"]
  o_places : FnO P w K mg base (T K) Lib k 56 "places" (He.ga K "places") ["step", "n"]
  o_marks : FnO P w K mg base (T K) Lib k 77 "marks" (He.ga K "marks") ["step", "n"]
  o_arcs : FnO P w K mg base (T K) Lib k 78 "arcs" (He.ga K "arcs") ["step", "n"]
  o_law_hand : FnO P w K mg base (T K) Lib k 89 "_law_hand" (He.ga K "_law_hand") ["script"]
  o_law_draw : FnO P w K mg base (T K) Lib k 90 "_law_draw" (He.ga K "_law_draw") ["hand", "many"]
  o_law_any : FnO P w K mg base (T K) Lib k 91 "_law_any" (He.ga K "_law_any") ["hand", "some"]
  o_law_is : FnO P w K mg base (T K) Lib k 92 "_law_is" (He.ga K "_law_is") ["answer", "due"]
  o_law_gcd : FnO P w K mg base (T K) Lib k 109 "_law_gcd" (He.ga K "_law_gcd") ["a", "b"]
  o_law_frac : FnO P w K mg base (T K) Lib k 110 "_law_frac" (He.ga K "_law_frac") ["n", "d"]
  o_law_until : FnO P w K mg base (T K) Lib k 111 "_law_until" (He.ga K "_law_until") ["rule", "day"]
  o_law_by : FnO P w K mg base (T K) Lib k 112 "_law_by" (He.ga K "_law_by") ["rule", "first", "length"]
  o_law_step : FnO P w K mg base (T K) Lib k 113 "_law_step" (He.ga K "_law_step") ["hand", "wide"]
  o_law_spots : FnO P w K mg base (T K) Lib k 352 "_law_spots" (He.ga K "_law_spots") ["step", "size"]
  o_law_far : FnO P w K mg base (T K) Lib k 353 "_law_far" (He.ga K "_law_far") ["spots", "bottom"]
  o_law_told_right : FnO P w K mg base (T K) Lib k 354 "_law_told_right" (He.ga K "_law_told_right") ["step", "size"]
  o_law_rows_right : FnO P w K mg base (T K) Lib k 355 "_law_rows_right" (He.ga K "_law_rows_right") ["step", "size"]
  o_law_drawn_step : FnO P w K mg base (T K) Lib k 356 "_law_drawn_step" (He.ga K "_law_drawn_step") ["hand"]
  o_law_refused_right : FnO P w K mg base (T K) Lib k 358 "_law_refused_right" (He.ga K "_law_refused_right") ["hand"]
  o_law_known_right : FnO P w K mg base (T K) Lib k 359 "_law_known_right" (He.ga K "_law_known_right") []
  o_law : FnO P w K mg base (T K) Lib k 360 "law" (He.ga K "law") ["script"]
section
variable {P : Program} {w : World} {K : PySem.W.Frag} {mg : Str → Option Value} {base : Heap} {k : Nat}
theorem sc_law_word : FnScope ["call", "found", "error", "flags"] ["call"] (defScope s_law_word) := ⟨rfl, rfl, rfl, by decide +kernel, rfl, by decide +kernel, by decide +kernel⟩
theorem bn_law_word (X : Fx K mg) : ∃ fd, Binds K fd ["call"] [] ∧ FunD K "_law_word" "_law_word" (defArgs s_law_word) (defBody s_law_word) (defScope s_law_word) [] [] (He.ga K "_law_word") fd := by
  obtain ⟨fd, Fd⟩ := X.d_law_word
  exact ⟨fd, Fd.bindsN fun _ _ _ _ _ _ us hl => match us, hl with | [_], _ => rfl, Fd⟩
theorem td_law_word {P : Program} {w : World} {K : PySem.W.Frag} {mg : Str → Option Value} {base : Heap} {c : CallT} {g f : Addr} {cdg : Value} {Ar : Around} {st : List Env} {s : Shared} {H : Hp} {pn : Wd × Addr × Str} {th : Store → Res D} (X : Fx K mg)
    (act : ∀ (W : WX) (pn2 : List (Addr × Obj)) (xe : Value → Shared → Prop) (p1 p2 : Pos), Indep W → Takes ((cxOf C8.CX0 P w K mg base ["call", "found", "error", "flags"] "_law_word" (defScope s_law_word) g cdg Ar st s H C8.E0).tr pn2 xe) W → GE ((cxOf C8.CX0 P w K mg base ["call", "found", "error", "flags"] "_law_word" (defScope s_law_word) g cdg Ar st s H C8.E0).tr pn2 xe) (Tl (T K) f pn) W (.Call (.Name "call" p1) [] [] p2) (eAct 0 th)) :
    GSs (cxOf C8.CX0 P w K mg base ["call", "found", "error", "flags"] "_law_word" (defScope s_law_word) g cdg Ar st s H C8.E0).nox (Tl (T K) f pn) Wn (defBody s_law_word) (b_law_word_v6 c th) := by
  have nd := sc_law_word.nd
  exact (gss_cons (gs_set (ps_set (i := 1) nd rfl (by first | exact Or.inl rfl | exact Or.inr rfl) ge_str)) (gss_cons (gs_tryAs rfl rfl nd rfl rfl ⟨by rfl, by decide, .inl X.k_DutyError⟩ takes0 rfl (exm1_ok X.m_3a5a7_0) (fun Wt pnt xet hIt tkt => (gss_one (gs_expr (act Wt pnt xet _ _ hIt tkt)))) (fun _ _ _ _ _ _ hze hfe hfl => (gss_cons (gs_set (ps_set (i := 3) nd rfl (by first | exact Or.inl rfl | exact Or.inr rfl) (ge_lst (ga_cons (ge_isE (v := .ref (He.ga K "BadStep")) hze hfe (by rfl) X.b_isinstance (excsB_ok X.x_3a5a7) (kiB_ok X.i_3a5a7_7) ⟨by rfl, by decide, .inl X.k_BadStep⟩ rfl (fun _ h => h) (ge_var 2 (pv 2))) (ga_cons (ge_isE (v := .ref (He.ga K "BadNumber")) hze hfe (by rfl) X.b_isinstance (excsB_ok X.x_3a5a7) (kiB_ok X.i_3a5a7_3) ⟨by rfl, by decide, .inl X.k_BadNumber⟩ rfl (fun _ h => h) (ge_var 2 (pv 2))) ga_nil))))) (gss_one (gs_set (ps_set (i := 1) nd rfl (by first | exact Or.inl rfl | exact Or.inr rfl) (ge_if (gt_cmp op_eq ok_eqS (ge_mlst PySem.F.slot_list_count PySem.F.type_list_count mt_lcountF ok_countL (ge_var 3 (pv 3)) (ga_cons ge_bl ga_nil)) ge_int (nomark _)) (ge_ix ix_seq ok_ix (ge_lst (ga_cons ge_str (ga_cons ge_str ga_nil))) (ge_mlst PySem.F.slot_list_index PySem.F.type_list_index mt_index ok_indexL (ge_var 3 (pv 3)) (ga_cons ge_bl ga_nil)) (fun _ _ => rfl)) ge_str))))))) (gss_one (gs_ret (ge_var 1 (pv 1))))))
theorem sc_is_integer : FnScope ["thing"] ["thing"] (defScope s_is_integer) := ⟨rfl, rfl, rfl, by decide +kernel, rfl, by decide +kernel, by decide +kernel⟩
theorem bn_is_integer (X : Fx K mg) : ∃ fd, Binds K fd ["thing"] [] ∧ FunD K "is_integer" "is_integer" (defArgs s_is_integer) (defBody s_is_integer) (defScope s_is_integer) [] [] (He.ga K "is_integer") fd := by
  obtain ⟨fd, Fd⟩ := X.d_is_integer
  exact ⟨fd, Fd.bindsN fun _ _ _ _ _ _ us hl => match us, hl with | [_], _ => rfl, Fd⟩
theorem ok_is_integer {fd : FuncData} (Fd : FunD K "is_integer" "is_integer" (defArgs s_is_integer) (defBody s_is_integer) (defScope s_is_integer) [] [] (He.ga K "is_integer") fd) (X : Fx K mg) (AA : ∀ j, j ≤ k → All P w K mg base j) (B : Tbs K base mg) : FnOk P w K mg base (L2.CX P w) (k + 1) (He.ga K "is_integer") fd ["thing"] (spOf K (T K) Lib (k + 1) 1) := by
  have A := AA k (Nat.le_refl k)
  refine fn_ok Fd sc_is_integer (d := f_is_integer) rfl rfl rfl fun cdv Ar outer s H E hr => ?_
  have nd := sc_is_integer.nd
  show GSs _ _ _ _ (b_is_integer (callN Lib k))
  exact (gss_one (gs_ret (ge_and (ge_isi (t := .int) (by rfl) X.b_isinstance (ge_var 0 (pv 0)) (pe_tyname (by rfl) X.b_int bt_int)) (ge_one (ge_not (ge_isi (t := .bool) (by rfl) X.b_isinstance (ge_var 0 (pv 0)) (pe_tyname (by rfl) X.b_bool bt_bool)))))))
theorem st_is_integer (X : Fx K mg) (AA : ∀ j, j ≤ k → All P w K mg base j) (B : Tbs K base mg) : FnO P w K mg base (T K) Lib (k + 1) 1 "is_integer" (He.ga K "is_integer") ["thing"] :=
  (bn_is_integer X).elim fun fd z => ⟨X.g_is_integer, z.2.kp, fd, z.1, ok_is_integer z.2 X AA B⟩
theorem sc_is_within : FnScope ["thing", "low", "high"] ["thing", "low", "high"] (defScope s_is_within) := ⟨rfl, rfl, rfl, by decide +kernel, rfl, by decide +kernel, by decide +kernel⟩
theorem bn_is_within (X : Fx K mg) : ∃ fd, Binds K fd ["thing", "low", "high"] [] ∧ FunD K "is_within" "is_within" (defArgs s_is_within) (defBody s_is_within) (defScope s_is_within) [] [] (He.ga K "is_within") fd := by
  obtain ⟨fd, Fd⟩ := X.d_is_within
  exact ⟨fd, Fd.bindsN fun _ _ _ _ _ _ us hl => match us, hl with | [_, _, _], _ => rfl, Fd⟩
theorem ok_is_within {fd : FuncData} (Fd : FunD K "is_within" "is_within" (defArgs s_is_within) (defBody s_is_within) (defScope s_is_within) [] [] (He.ga K "is_within") fd) (X : Fx K mg) (AA : ∀ j, j ≤ k → All P w K mg base j) (B : Tbs K base mg) : FnOk P w K mg base (L2.CX P w) (k + 1) (He.ga K "is_within") fd ["thing", "low", "high"] (spOf K (T K) Lib (k + 1) 2) := by
  have A := AA k (Nat.le_refl k)
  refine fn_ok Fd sc_is_within (d := f_is_within) rfl rfl rfl fun cdv Ar outer s H E hr => ?_
  have nd := sc_is_within.nd
  show GSs _ _ _ _ (b_is_within (callN Lib k))
  exact (gss_one (gs_ret (ge_and (ge_fn A.o_is_integer hr (takes_of rfl rfl rfl rfl) (by rfl) (ga_cons (ge_var 0 (pv 0)) ga_nil)) (ge_one (ge_chain op_le op_le (ok_cmp _) (ok_cmp _) (ge_var 1 (pv 1)) (ge_var 0 (pv 0)) (ge_var 2 (pv 2)) (pe_chain op_le op_le (ge_var 1 (pv 1)) (ge_var 0 (pv 0)) (ge_var 2 (pv 2))))))))
theorem st_is_within (X : Fx K mg) (AA : ∀ j, j ≤ k → All P w K mg base j) (B : Tbs K base mg) : FnO P w K mg base (T K) Lib (k + 1) 2 "is_within" (He.ga K "is_within") ["thing", "low", "high"] :=
  (bn_is_within X).elim fun fd z => ⟨X.g_is_within, z.2.kp, fd, z.1, ok_is_within z.2 X AA B⟩
theorem sc_is_tuple_of : FnScope ["thing", "many"] ["thing", "many"] (defScope s_is_tuple_of) := ⟨rfl, rfl, rfl, by decide +kernel, rfl, by decide +kernel, by decide +kernel⟩
theorem bn_is_tuple_of (X : Fx K mg) : ∃ fd, Binds K fd ["thing", "many"] [] ∧ FunD K "is_tuple_of" "is_tuple_of" (defArgs s_is_tuple_of) (defBody s_is_tuple_of) (defScope s_is_tuple_of) [] [] (He.ga K "is_tuple_of") fd := by
  obtain ⟨fd, Fd⟩ := X.d_is_tuple_of
  exact ⟨fd, Fd.bindsN fun _ _ _ _ _ _ us hl => match us, hl with | [_, _], _ => rfl, Fd⟩
theorem ok_is_tuple_of {fd : FuncData} (Fd : FunD K "is_tuple_of" "is_tuple_of" (defArgs s_is_tuple_of) (defBody s_is_tuple_of) (defScope s_is_tuple_of) [] [] (He.ga K "is_tuple_of") fd) (X : Fx K mg) (AA : ∀ j, j ≤ k → All P w K mg base j) (B : Tbs K base mg) : FnOk P w K mg base (L2.CX P w) (k + 1) (He.ga K "is_tuple_of") fd ["thing", "many"] (spOf K (T K) Lib (k + 1) 3) := by
  have A := AA k (Nat.le_refl k)
  refine fn_ok Fd sc_is_tuple_of (d := f_is_tuple_of) rfl rfl rfl fun cdv Ar outer s H E hr => ?_
  have nd := sc_is_tuple_of.nd
  show GSs _ _ _ _ (b_is_tuple_of (callN Lib k))
  exact (gss_one (gs_ret (ge_and (ge_isi (t := .tuple) (by rfl) X.b_isinstance (ge_var 0 (pv 0)) (pe_tyname (by rfl) X.b_tuple bt_tuple)) (ge_one (ge_cmp (or_eq hr.units) ok_eq (ge_blt or_len ok_len (by rfl) X.b_len bt_len (ga_cons (ge_var 0 (pv 0)) ga_nil)) (ge_var 1 (pv 1)) (nomark _))))))
theorem st_is_tuple_of (X : Fx K mg) (AA : ∀ j, j ≤ k → All P w K mg base j) (B : Tbs K base mg) : FnO P w K mg base (T K) Lib (k + 1) 3 "is_tuple_of" (He.ga K "is_tuple_of") ["thing", "many"] :=
  (bn_is_tuple_of X).elim fun fd z => ⟨X.g_is_tuple_of, z.2.kp, fd, z.1, ok_is_tuple_of z.2 X AA B⟩
theorem sc_common : FnScope ["one", "other"] ["one", "other"] (defScope s_common) := ⟨rfl, rfl, rfl, by decide +kernel, rfl, by decide +kernel, by decide +kernel⟩
theorem bn_common (X : Fx K mg) : ∃ fd, Binds K fd ["one", "other"] [] ∧ FunD K "common" "common" (defArgs s_common) (defBody s_common) (defScope s_common) [] [] (He.ga K "common") fd := by
  obtain ⟨fd, Fd⟩ := X.d_common
  exact ⟨fd, Fd.bindsN fun _ _ _ _ _ _ us hl => match us, hl with | [_, _], _ => rfl, Fd⟩
theorem ok_common {fd : FuncData} (Fd : FunD K "common" "common" (defArgs s_common) (defBody s_common) (defScope s_common) [] [] (He.ga K "common") fd) (X : Fx K mg) (AA : ∀ j, j ≤ k → All P w K mg base j) (B : Tbs K base mg) : FnOk P w K mg base (L2.CX P w) (k + 1) (He.ga K "common") fd ["one", "other"] (spOf K (T K) Lib (k + 1) 4) := by
  have A := AA k (Nat.le_refl k)
  refine fn_ok Fd sc_common (d := f_common) rfl rfl rfl fun cdv Ar outer s H E hr => ?_
  have nd := sc_common.nd
  show GSs _ _ _ _ (b_common (callN Lib k))
  exact (gss_cons (gs_swp2 (ps_par (i := 0) (j := 1) rfl nd rfl rfl (by decide) rfl rfl (ga_cons (ge_blt call_abs ok_abs (by rfl) X.b_abs bt_abs (ga_cons (ge_var 0 (pv 0)) ga_nil)) (ga_cons (ge_blt call_abs ok_abs (by rfl) X.b_abs bt_abs (ga_cons (ge_var 1 (pv 1)) ga_nil)) ga_nil)) (by rfl))) (gss_cons (gs_while (passes_of rfl) (gt_cmp op_gt (ok_cmp _) (ge_var 1 (pv 1)) ge_int (nomark _)) (gss_one (gs_swp2 (ps_par (i := 0) (j := 1) rfl nd rfl rfl (by decide) rfl rfl (ga_cons (ge_var 1 (pv 1)) (ga_cons (ge_op op_modN ok_mod (ge_var 0 (pv 0)) (ge_var 1 (pv 1))) ga_nil)) (by rfl))))) (gss_one (gs_ret (ge_var 0 (pv 0))))))
theorem st_common (X : Fx K mg) (AA : ∀ j, j ≤ k → All P w K mg base j) (B : Tbs K base mg) : FnO P w K mg base (T K) Lib (k + 1) 4 "common" (He.ga K "common") ["one", "other"] :=
  (bn_common X).elim fun fd z => ⟨X.g_common, z.2.kp, fd, z.1, ok_common z.2 X AA B⟩
theorem sc_is_fraction : FnScope ["thing"] ["thing"] (defScope s_is_fraction) := ⟨rfl, rfl, rfl, by decide +kernel, rfl, by decide +kernel, by decide +kernel⟩
theorem bn_is_fraction (X : Fx K mg) : ∃ fd, Binds K fd ["thing"] [] ∧ FunD K "is_fraction" "is_fraction" (defArgs s_is_fraction) (defBody s_is_fraction) (defScope s_is_fraction) [] [] (He.ga K "is_fraction") fd := by
  obtain ⟨fd, Fd⟩ := X.d_is_fraction
  exact ⟨fd, Fd.bindsN fun _ _ _ _ _ _ us hl => match us, hl with | [_], _ => rfl, Fd⟩
theorem ok_is_fraction {fd : FuncData} (Fd : FunD K "is_fraction" "is_fraction" (defArgs s_is_fraction) (defBody s_is_fraction) (defScope s_is_fraction) [] [] (He.ga K "is_fraction") fd) (X : Fx K mg) (AA : ∀ j, j ≤ k → All P w K mg base j) (B : Tbs K base mg) : FnOk P w K mg base (L2.CX P w) (k + 1) (He.ga K "is_fraction") fd ["thing"] (spOf K (T K) Lib (k + 1) 5) := by
  have A := AA k (Nat.le_refl k)
  refine fn_ok Fd sc_is_fraction (d := f_is_fraction) rfl rfl rfl fun cdv Ar outer s H E hr => ?_
  have nd := sc_is_fraction.nd
  show GSs _ _ _ _ (b_is_fraction (callN Lib k))
  exact (gss_cons (gs_if (GW.gt (gw_or (gt_not (gt_val (ge_fn A.o_is_tuple_of hr (takes_of rfl rfl rfl rfl) (by rfl) (ga_cons (ge_var 0 (pv 0)) (ga_cons ge_int ga_nil))))) (gw_or (gt_not (gt_val (ge_fn A.o_is_integer hr (takes_of rfl rfl rfl rfl) (by rfl) (ga_cons (ge_ix ix_seq ok_ix (ge_var 0 (pv 0)) ge_int (fun _ _ => rfl)) ga_nil)))) (gw_or1 (gt_not (gt_val (ge_fn A.o_is_integer hr (takes_of rfl rfl rfl rfl) (by rfl) (ga_cons (ge_ix ix_seq ok_ix (ge_var 0 (pv 0)) ge_int (fun _ _ => rfl)) ga_nil)))))))) (gss_one (gs_ret ge_bl)) gss_nil) (gss_one (gs_ret (ge_and (ge_cmp op_ge (ok_cmp _) (ge_ix ix_seq ok_ix (ge_var 0 (pv 0)) ge_int (fun _ _ => rfl)) ge_int (nomark _)) (ge_one (ge_cmp (or_eq hr.units) ok_eq (ge_fn A.o_common hr (takes_of rfl rfl rfl rfl) (by rfl) (ga_cons (ge_ix ix_seq ok_ix (ge_var 0 (pv 0)) ge_int (fun _ _ => rfl)) (ga_cons (ge_ix ix_seq ok_ix (ge_var 0 (pv 0)) ge_int (fun _ _ => rfl)) ga_nil))) ge_int (nomark _)))))))
theorem st_is_fraction (X : Fx K mg) (AA : ∀ j, j ≤ k → All P w K mg base j) (B : Tbs K base mg) : FnO P w K mg base (T K) Lib (k + 1) 5 "is_fraction" (He.ga K "is_fraction") ["thing"] :=
  (bn_is_fraction X).elim fun fd z => ⟨X.g_is_fraction, z.2.kp, fd, z.1, ok_is_fraction z.2 X AA B⟩
theorem sc_frac : FnScope ["top", "bottom", "divisor"] ["top", "bottom"] (defScope s_frac) := ⟨rfl, rfl, rfl, by decide +kernel, rfl, by decide +kernel, by decide +kernel⟩
theorem bn_frac (X : Fx K mg) : ∃ fd, Binds K fd ["top", "bottom"] [] ∧ FunD K "frac" "frac" (defArgs s_frac) (defBody s_frac) (defScope s_frac) [] [] (He.ga K "frac") fd := by
  obtain ⟨fd, Fd⟩ := X.d_frac
  exact ⟨fd, Fd.bindsN fun _ _ _ _ _ _ us hl => match us, hl with | [_, _], _ => rfl, Fd⟩
theorem ok_frac {fd : FuncData} (Fd : FunD K "frac" "frac" (defArgs s_frac) (defBody s_frac) (defScope s_frac) [] [] (He.ga K "frac") fd) (X : Fx K mg) (AA : ∀ j, j ≤ k → All P w K mg base j) (B : Tbs K base mg) : FnOk P w K mg base (L2.CX P w) (k + 1) (He.ga K "frac") fd ["top", "bottom"] (spOf K (T K) Lib (k + 1) 6) := by
  have A := AA k (Nat.le_refl k)
  refine fn_ok Fd sc_frac (d := f_frac) rfl rfl rfl fun cdv Ar outer s H E hr => ?_
  have nd := sc_frac.nd
  show GSs _ _ _ _ (b_frac (callN Lib k))
  exact (gss_cons (gs_set (ps_set (i := 2) nd rfl (by first | exact Or.inl rfl | exact Or.inr rfl) (ge_fn A.o_common hr (takes_of rfl rfl rfl rfl) (by rfl) (ga_cons (ge_var 0 (pv 0)) (ga_cons (ge_var 1 (pv 1)) ga_nil))))) (gss_cons (gs_if (gt_cmp op_lt (ok_cmp _) (ge_var 1 (pv 1)) ge_int (nomark _)) (gss_one (gs_set (ps_set (i := 2) nd rfl (by first | exact Or.inl rfl | exact Or.inr rfl) (ge_un un_neg ok_neg (ge_var 2 (pv 2)))))) gss_nil) (gss_one (gs_ret (ge_tup (k := 2) rfl (by decide) (ga_cons (ge_op or_div ok_div (ge_var 0 (pv 0)) (ge_var 2 (pv 2))) (ga_cons (ge_op or_div ok_div (ge_var 1 (pv 1)) (ge_var 2 (pv 2))) ga_nil)) rfl)))))
theorem st_frac (X : Fx K mg) (AA : ∀ j, j ≤ k → All P w K mg base j) (B : Tbs K base mg) : FnO P w K mg base (T K) Lib (k + 1) 6 "frac" (He.ga K "frac") ["top", "bottom"] :=
  (bn_frac X).elim fun fd z => ⟨X.g_frac, z.2.kp, fd, z.1, ok_frac z.2 X AA B⟩
theorem sc_less : FnScope ["one", "other"] ["one", "other"] (defScope s_less) := ⟨rfl, rfl, rfl, by decide +kernel, rfl, by decide +kernel, by decide +kernel⟩
theorem bn_less (X : Fx K mg) : ∃ fd, Binds K fd ["one", "other"] [] ∧ FunD K "less" "less" (defArgs s_less) (defBody s_less) (defScope s_less) [] [] (He.ga K "less") fd := by
  obtain ⟨fd, Fd⟩ := X.d_less
  exact ⟨fd, Fd.bindsN fun _ _ _ _ _ _ us hl => match us, hl with | [_, _], _ => rfl, Fd⟩
theorem ok_less {fd : FuncData} (Fd : FunD K "less" "less" (defArgs s_less) (defBody s_less) (defScope s_less) [] [] (He.ga K "less") fd) (X : Fx K mg) (AA : ∀ j, j ≤ k → All P w K mg base j) (B : Tbs K base mg) : FnOk P w K mg base (L2.CX P w) (k + 1) (He.ga K "less") fd ["one", "other"] (spOf K (T K) Lib (k + 1) 10) := by
  have A := AA k (Nat.le_refl k)
  refine fn_ok Fd sc_less (d := f_less) rfl rfl rfl fun cdv Ar outer s H E hr => ?_
  have nd := sc_less.nd
  show GSs _ _ _ _ (b_less (callN Lib k))
  exact (gss_one (gs_ret (ge_cmp op_lt (ok_cmp _) (ge_op or_mul ok_mul (ge_ix ix_seq ok_ix (ge_var 0 (pv 0)) ge_int (fun _ _ => rfl)) (ge_ix ix_seq ok_ix (ge_var 1 (pv 1)) ge_int (fun _ _ => rfl))) (ge_op or_mul ok_mul (ge_ix ix_seq ok_ix (ge_var 1 (pv 1)) ge_int (fun _ _ => rfl)) (ge_ix ix_seq ok_ix (ge_var 0 (pv 0)) ge_int (fun _ _ => rfl))) (nomark _))))
theorem st_less (X : Fx K mg) (AA : ∀ j, j ≤ k → All P w K mg base j) (B : Tbs K base mg) : FnO P w K mg base (T K) Lib (k + 1) 10 "less" (He.ga K "less") ["one", "other"] :=
  (bn_less X).elim fun fd z => ⟨X.g_less, z.2.kp, fd, z.1, ok_less z.2 X AA B⟩
theorem sc_is_line : FnScope ["thing"] ["thing"] (defScope s_is_line) := ⟨rfl, rfl, rfl, by decide +kernel, rfl, by decide +kernel, by decide +kernel⟩
theorem bn_is_line (X : Fx K mg) : ∃ fd, Binds K fd ["thing"] [] ∧ FunD K "is_line" "is_line" (defArgs s_is_line) (defBody s_is_line) (defScope s_is_line) [] [] (He.ga K "is_line") fd := by
  obtain ⟨fd, Fd⟩ := X.d_is_line
  exact ⟨fd, Fd.bindsN fun _ _ _ _ _ _ us hl => match us, hl with | [_], _ => rfl, Fd⟩
theorem ok_is_line {fd : FuncData} (Fd : FunD K "is_line" "is_line" (defArgs s_is_line) (defBody s_is_line) (defScope s_is_line) [] [] (He.ga K "is_line") fd) (X : Fx K mg) (AA : ∀ j, j ≤ k → All P w K mg base j) (B : Tbs K base mg) : FnOk P w K mg base (L2.CX P w) (k + 1) (He.ga K "is_line") fd ["thing"] (spOf K (T K) Lib (k + 1) 61) := by
  have A := AA k (Nat.le_refl k)
  refine fn_ok Fd sc_is_line (d := f_is_line) rfl rfl rfl fun cdv Ar outer s H E hr => ?_
  have nd := sc_is_line.nd
  show GSs _ _ _ _ (b_is_line (callN Lib k))
  exact (gss_cons (gs_if (GW.gt (gw_or (gt_not (gt_val (ge_fn A.o_is_tuple_of hr (takes_of rfl rfl rfl rfl) (by rfl) (ga_cons (ge_var 0 (pv 0)) (ga_cons ge_int ga_nil))))) (gw_or (gt_not (gt_val (ge_fn A.o_is_fraction hr (takes_of rfl rfl rfl rfl) (by rfl) (ga_cons (ge_ix ix_seq ok_ix (ge_var 0 (pv 0)) ge_int (fun _ _ => rfl)) ga_nil)))) (gw_or1 (gt_not (gt_val (ge_fn A.o_is_fraction hr (takes_of rfl rfl rfl rfl) (by rfl) (ga_cons (ge_ix ix_seq ok_ix (ge_var 0 (pv 0)) ge_int (fun _ _ => rfl)) ga_nil)))))))) (gss_one (gs_ret ge_bl)) gss_nil) (gss_cons (gs_if (GW.gt (gw_or (gt_val (ge_fn A.o_less hr (takes_of rfl rfl rfl rfl) (by rfl) (ga_cons (ge_ix ix_seq ok_ix (ge_var 0 (pv 0)) ge_int (fun _ _ => rfl)) (ga_cons (ge_ctup (by rfl) X.c_ZERO) ga_nil)))) (gw_or1 (gt_val (ge_fn A.o_less hr (takes_of rfl rfl rfl rfl) (by rfl) (ga_cons (ge_ctup (by rfl) X.c_ONE) (ga_cons (ge_ix ix_seq ok_ix (ge_var 0 (pv 0)) ge_int (fun _ _ => rfl)) ga_nil))))))) (gss_one (gs_ret ge_bl)) gss_nil) (gss_one (gs_ret (ge_and (ge_not (ge_fn A.o_less hr (takes_of rfl rfl rfl rfl) (by rfl) (ga_cons (ge_ix ix_seq ok_ix (ge_var 0 (pv 0)) ge_int (fun _ _ => rfl)) (ga_cons (ge_ctup (by rfl) X.c_ZERO) ga_nil)))) (ge_one (ge_fn A.o_less hr (takes_of rfl rfl rfl rfl) (by rfl) (ga_cons (ge_ix ix_seq ok_ix (ge_var 0 (pv 0)) ge_int (fun _ _ => rfl)) (ga_cons (ge_ctup (by rfl) X.c_ONE) ga_nil)))))))))
theorem st_is_line (X : Fx K mg) (AA : ∀ j, j ≤ k → All P w K mg base j) (B : Tbs K base mg) : FnO P w K mg base (T K) Lib (k + 1) 61 "is_line" (He.ga K "is_line") ["thing"] :=
  (bn_is_line X).elim fun fd z => ⟨X.g_is_line, z.2.kp, fd, z.1, ok_is_line z.2 X AA B⟩
theorem sc_is_rule : FnScope ["thing"] ["thing"] (defScope s_is_rule) := ⟨rfl, rfl, rfl, by decide +kernel, rfl, by decide +kernel, by decide +kernel⟩
theorem bn_is_rule (X : Fx K mg) : ∃ fd, Binds K fd ["thing"] [] ∧ FunD K "is_rule" "is_rule" (defArgs s_is_rule) (defBody s_is_rule) (defScope s_is_rule) [] [] (He.ga K "is_rule") fd := by
  obtain ⟨fd, Fd⟩ := X.d_is_rule
  exact ⟨fd, Fd.bindsN fun _ _ _ _ _ _ us hl => match us, hl with | [_], _ => rfl, Fd⟩
theorem ok_is_rule {fd : FuncData} (Fd : FunD K "is_rule" "is_rule" (defArgs s_is_rule) (defBody s_is_rule) (defScope s_is_rule) [] [] (He.ga K "is_rule") fd) (X : Fx K mg) (AA : ∀ j, j ≤ k → All P w K mg base j) (B : Tbs K base mg) : FnOk P w K mg base (L2.CX P w) (k + 1) (He.ga K "is_rule") fd ["thing"] (spOf K (T K) Lib (k + 1) 62) := by
  have A := AA k (Nat.le_refl k)
  refine fn_ok Fd sc_is_rule (d := f_is_rule) rfl rfl rfl fun cdv Ar outer s H E hr => ?_
  have nd := sc_is_rule.nd
  show GSs _ _ _ _ (b_is_rule (callN Lib k))
  exact (gss_one (gs_ret (ge_and (ge_fn A.o_is_line hr (takes_of rfl rfl rfl rfl) (by rfl) (ga_cons (ge_var 0 (pv 0)) ga_nil)) (ge_and (ge_cmp op_le (ok_cmp _) (ge_ix ix_seq ok_ix (ge_ix ix_seq ok_ix (ge_var 0 (pv 0)) ge_int (fun _ _ => rfl)) ge_int (fun _ _ => rfl)) (ge_cint (by rfl) X.c_MOST_BOTTOM) (nomark _)) (ge_one (ge_cmp op_le (ok_cmp _) (ge_ix ix_seq ok_ix (ge_ix ix_seq ok_ix (ge_var 0 (pv 0)) ge_int (fun _ _ => rfl)) ge_int (fun _ _ => rfl)) (ge_cint (by rfl) X.c_MOST_BOTTOM) (nomark _)))))))
theorem st_is_rule (X : Fx K mg) (AA : ∀ j, j ≤ k → All P w K mg base j) (B : Tbs K base mg) : FnO P w K mg base (T K) Lib (k + 1) 62 "is_rule" (He.ga K "is_rule") ["thing"] :=
  (bn_is_rule X).elim fun fd z => ⟨X.g_is_rule, z.2.kp, fd, z.1, ok_is_rule z.2 X AA B⟩
theorem sc_check_rule : FnScope ["rule"] ["rule"] (defScope s_check_rule) := ⟨rfl, rfl, rfl, by decide +kernel, rfl, by decide +kernel, by decide +kernel⟩
theorem bn_check_rule (X : Fx K mg) : ∃ fd, Binds K fd ["rule"] [] ∧ FunD K "check_rule" "check_rule" (defArgs s_check_rule) (defBody s_check_rule) (defScope s_check_rule) [] [] (He.ga K "check_rule") fd := by
  obtain ⟨fd, Fd⟩ := X.d_check_rule
  exact ⟨fd, Fd.bindsN fun _ _ _ _ _ _ us hl => match us, hl with | [_], _ => rfl, Fd⟩
theorem ok_check_rule {fd : FuncData} (Fd : FunD K "check_rule" "check_rule" (defArgs s_check_rule) (defBody s_check_rule) (defScope s_check_rule) [] [] (He.ga K "check_rule") fd) (X : Fx K mg) (AA : ∀ j, j ≤ k → All P w K mg base j) (B : Tbs K base mg) : FnOk P w K mg base (L2.CX P w) (k + 1) (He.ga K "check_rule") fd ["rule"] (spOf K (T K) Lib (k + 1) 63) := by
  have A := AA k (Nat.le_refl k)
  refine fn_ok Fd sc_check_rule (d := f_check_rule) rfl rfl rfl fun cdv Ar outer s H E hr => ?_
  have nd := sc_check_rule.nd
  show GSs _ _ _ _ (b_check_rule (callN Lib k))
  exact (gss_one (gs_if (gt_not (gt_val (ge_fn A.o_is_rule hr (takes_of rfl rfl rfl rfl) (by rfl) (ga_cons (ge_var 0 (pv 0)) ga_nil)))) (gss_one (gs_raise0 X.e_BadRule rfl (takes_of rfl rfl rfl rfl) (by rfl))) gss_nil))
theorem st_check_rule (X : Fx K mg) (AA : ∀ j, j ≤ k → All P w K mg base j) (B : Tbs K base mg) : FnO P w K mg base (T K) Lib (k + 1) 63 "check_rule" (He.ga K "check_rule") ["rule"] :=
  (bn_check_rule X).elim fun fd z => ⟨X.g_check_rule, z.2.kp, fd, z.1, ok_check_rule z.2 X AA B⟩
theorem sc_total_to : FnScope ["rule", "n", "step", "start"] ["rule", "n"] (defScope s_total_to) := ⟨rfl, rfl, rfl, by decide +kernel, rfl, by decide +kernel, by decide +kernel⟩
theorem bn_total_to (X : Fx K mg) : ∃ fd, Binds K fd ["rule", "n"] [] ∧ FunD K "total_to" "total_to" (defArgs s_total_to) (defBody s_total_to) (defScope s_total_to) [] [] (He.ga K "total_to") fd := by
  obtain ⟨fd, Fd⟩ := X.d_total_to
  exact ⟨fd, Fd.bindsN fun _ _ _ _ _ _ us hl => match us, hl with | [_, _], _ => rfl, Fd⟩
theorem ok_total_to {fd : FuncData} (Fd : FunD K "total_to" "total_to" (defArgs s_total_to) (defBody s_total_to) (defScope s_total_to) [] [] (He.ga K "total_to") fd) (X : Fx K mg) (AA : ∀ j, j ≤ k → All P w K mg base j) (B : Tbs K base mg) : FnOk P w K mg base (L2.CX P w) (k + 1) (He.ga K "total_to") fd ["rule", "n"] (spOf K (T K) Lib (k + 1) 64) := by
  have A := AA k (Nat.le_refl k)
  refine fn_ok Fd sc_total_to (d := f_total_to) rfl rfl rfl fun cdv Ar outer s H E hr => ?_
  have nd := sc_total_to.nd
  show GSs _ _ _ _ (b_total_to (callN Lib k))
  exact (gss_cons (gs_asg (ps_asg (ge_var 0 (pv 0)) (gp_tup rfl (gps_cons (gp_name (pg_name (i := 2) nd rfl (by first | exact Or.inl rfl | exact Or.inr rfl))) (gps_cons (gp_name (pg_name (i := 3) nd rfl (by first | exact Or.inl rfl | exact Or.inr rfl))) gps_nil))))) (gss_one (gs_ret (ge_op or_div ok_div (ge_op or_add ok_add (ge_op or_mul ok_mul (ge_op or_mul ok_mul (ge_var 1 (pv 1)) (ge_ix ix_seq ok_ix (ge_var 2 (pv 2)) ge_int (fun _ _ => rfl))) (ge_ix ix_seq ok_ix (ge_var 3 (pv 3)) ge_int (fun _ _ => rfl))) (ge_op or_mul ok_mul (ge_ix ix_seq ok_ix (ge_var 3 (pv 3)) ge_int (fun _ _ => rfl)) (ge_ix ix_seq ok_ix (ge_var 2 (pv 2)) ge_int (fun _ _ => rfl)))) (ge_op or_mul ok_mul (ge_ix ix_seq ok_ix (ge_var 2 (pv 2)) ge_int (fun _ _ => rfl)) (ge_ix ix_seq ok_ix (ge_var 3 (pv 3)) ge_int (fun _ _ => rfl)))))))
theorem st_total_to (X : Fx K mg) (AA : ∀ j, j ≤ k → All P w K mg base j) (B : Tbs K base mg) : FnO P w K mg base (T K) Lib (k + 1) 64 "total_to" (He.ga K "total_to") ["rule", "n"] :=
  (bn_total_to X).elim fun fd z => ⟨X.g_total_to, z.2.kp, fd, z.1, ok_total_to z.2 X AA B⟩
theorem sc_row_of : FnScope ["rule", "first", "length", "totals", "day"] ["rule", "first", "length"] (defScope s_row_of) := ⟨rfl, rfl, rfl, by decide +kernel, rfl, by decide +kernel, by decide +kernel⟩
theorem bn_row_of (X : Fx K mg) : ∃ fd, Binds K fd ["rule", "first", "length"] [] ∧ FunD K "row_of" "row_of" (defArgs s_row_of) (defBody s_row_of) (defScope s_row_of) [] [] (He.ga K "row_of") fd := by
  obtain ⟨fd, Fd⟩ := X.d_row_of
  exact ⟨fd, Fd.bindsN fun _ _ _ _ _ _ us hl => match us, hl with | [_, _, _], _ => rfl, Fd⟩
theorem ok_row_of {fd : FuncData} (Fd : FunD K "row_of" "row_of" (defArgs s_row_of) (defBody s_row_of) (defScope s_row_of) [] [] (He.ga K "row_of") fd) (X : Fx K mg) (AA : ∀ j, j ≤ k → All P w K mg base j) (B : Tbs K base mg) : FnOk P w K mg base (L2.CX P w) (k + 1) (He.ga K "row_of") fd ["rule", "first", "length"] (spOf K (T K) Lib (k + 1) 65) := by
  have A := AA k (Nat.le_refl k)
  refine fn_ok Fd sc_row_of (d := f_row_of) rfl rfl rfl fun cdv Ar outer s H E hr => ?_
  have nd := sc_row_of.nd
  show GSs _ _ _ _ (b_row_of (callN Lib k))
  exact (gss_cons (gs_set (ps_set (i := 3) nd rfl (by first | exact Or.inl rfl | exact Or.inr rfl) (ge_lc (own := [("day", 4)]) rfl nd (gi_rng1 (by rfl) X.b_range (ga_cons (ge_op or_add ok_add (ge_var 2 (pv 2)) ge_int) ga_nil)) (blkOk_by (N := ["rule", "first", "length", "totals", "day"]) (sc := defScope s_row_of) (own := [("day", 4)]) (by decide +kernel)) (by decide) (fun _ _ _ _ _ => (gp_name (pg_name (i := 4) nd rfl (by first | exact Or.inl rfl | exact Or.inr rfl)))) (fun _ _ _ _ _ => gts_nil) (fun _ _ _ _ _ => (ge_fn A.o_total_to hr takes0 (by rfl) (ga_cons (ge_var 0 (pv 0)) (ga_cons (ge_op or_add ok_add (ge_var 1 (pv 1)) (ge_var 4 (pv 4))) ga_nil))))))) (gss_one (gs_ret (ge_join ge_str (ge_lc (own := [("day", 4)]) rfl nd (gi_rng1 (by rfl) X.b_range (ga_cons (ge_var 2 (pv 2)) ga_nil)) (blkOk_by (N := ["rule", "first", "length", "totals", "day"]) (sc := defScope s_row_of) (own := [("day", 4)]) (by decide +kernel)) (by decide) (fun _ _ _ _ _ => (gp_name (pg_name (i := 4) nd rfl (by first | exact Or.inl rfl | exact Or.inr rfl)))) (fun _ _ _ _ _ => gts_nil) (fun _ _ _ _ _ => (ge_if (gt_cmp op_gt (ok_cmp _) (ge_ix ix_seq ok_ix (ge_var 3 (pv 3)) (ge_op or_add ok_add (ge_var 4 (pv 4)) ge_int) (fun _ _ => rfl)) (ge_ix ix_seq ok_ix (ge_var 3 (pv 3)) (ge_var 4 (pv 4)) (fun _ _ => rfl)) (nomark _)) (ge_cstr (by rfl) X.c_DUTY) (ge_cstr (by rfl) X.c_FREE))))))))
theorem st_row_of (X : Fx K mg) (AA : ∀ j, j ≤ k → All P w K mg base j) (B : Tbs K base mg) : FnO P w K mg base (T K) Lib (k + 1) 65 "row_of" (He.ga K "row_of") ["rule", "first", "length"] :=
  (bn_row_of X).elim fun fd z => ⟨X.g_row_of, z.2.kp, fd, z.1, ok_row_of z.2 X AA B⟩
theorem sc_made : FnScope ["rule", "first", "length"] ["rule", "first", "length"] (defScope s_made) := ⟨rfl, rfl, rfl, by decide +kernel, rfl, by decide +kernel, by decide +kernel⟩
theorem bn_made (X : Fx K mg) : ∃ fd, Binds K fd ["rule", "first", "length"] [] ∧ FunD K "made" "made" (defArgs s_made) (defBody s_made) (defScope s_made) [] [] (He.ga K "made") fd := by
  obtain ⟨fd, Fd⟩ := X.d_made
  exact ⟨fd, Fd.bindsN fun _ _ _ _ _ _ us hl => match us, hl with | [_, _, _], _ => rfl, Fd⟩
theorem ok_made {fd : FuncData} (Fd : FunD K "made" "made" (defArgs s_made) (defBody s_made) (defScope s_made) [] [] (He.ga K "made") fd) (X : Fx K mg) (AA : ∀ j, j ≤ k → All P w K mg base j) (B : Tbs K base mg) : FnOk P w K mg base (L2.CX P w) (k + 1) (He.ga K "made") fd ["rule", "first", "length"] (spOf K (T K) Lib (k + 1) 66) := by
  have A := AA k (Nat.le_refl k)
  refine fn_ok Fd sc_made (d := f_made) rfl rfl rfl fun cdv Ar outer s H E hr => ?_
  have nd := sc_made.nd
  show GSs _ _ _ _ (b_made (callN Lib k))
  exact (gss_cons (gs_expr (ge_fn A.o_check_rule hr (takes_of rfl rfl rfl rfl) (by rfl) (ga_cons (ge_var 0 (pv 0)) ga_nil))) (gss_cons (gs_if (GW.gt (gw_or (gt_not (gt_val (ge_fn A.o_is_within hr (takes_of rfl rfl rfl rfl) (by rfl) (ga_cons (ge_var 1 (pv 1)) (ga_cons ge_int (ga_cons (ge_cint (by rfl) X.c_MOST_DAY) ga_nil)))))) (gw_or1 (gt_not (gt_val (ge_fn A.o_is_within hr (takes_of rfl rfl rfl rfl) (by rfl) (ga_cons (ge_var 2 (pv 2)) (ga_cons ge_int (ga_cons (ge_cint (by rfl) X.c_MOST_DAYS) ga_nil))))))))) (gss_one (gs_raise0 X.e_BadNumber rfl (takes_of rfl rfl rfl rfl) (by rfl))) gss_nil) (gss_one (gs_ret (ge_fn A.o_row_of hr (takes_of rfl rfl rfl rfl) (by rfl) (ga_cons (ge_var 0 (pv 0)) (ga_cons (ge_var 1 (pv 1)) (ga_cons (ge_var 2 (pv 2)) ga_nil))))))))
theorem st_made (X : Fx K mg) (AA : ∀ j, j ≤ k → All P w K mg base j) (B : Tbs K base mg) : FnO P w K mg base (T K) Lib (k + 1) 66 "made" (He.ga K "made") ["rule", "first", "length"] :=
  (bn_made X).elim fun fd z => ⟨X.g_made, z.2.kp, fd, z.1, ok_made z.2 X AA B⟩
theorem sc_check_marks : FnScope ["step", "n"] ["step", "n"] (defScope s_check_marks) := ⟨rfl, rfl, rfl, by decide +kernel, rfl, by decide +kernel, by decide +kernel⟩
theorem bn_check_marks (X : Fx K mg) : ∃ fd, Binds K fd ["step", "n"] [] ∧ FunD K "check_marks" "check_marks" (defArgs s_check_marks) (defBody s_check_marks) (defScope s_check_marks) [] [] (He.ga K "check_marks") fd := by
  obtain ⟨fd, Fd⟩ := X.d_check_marks
  exact ⟨fd, Fd.bindsN fun _ _ _ _ _ _ us hl => match us, hl with | [_, _], _ => rfl, Fd⟩
theorem ok_check_marks {fd : FuncData} (Fd : FunD K "check_marks" "check_marks" (defArgs s_check_marks) (defBody s_check_marks) (defScope s_check_marks) [] [] (He.ga K "check_marks") fd) (X : Fx K mg) (AA : ∀ j, j ≤ k → All P w K mg base j) (B : Tbs K base mg) : FnOk P w K mg base (L2.CX P w) (k + 1) (He.ga K "check_marks") fd ["step", "n"] (spOf K (T K) Lib (k + 1) 76) := by
  have A := AA k (Nat.le_refl k)
  refine fn_ok Fd sc_check_marks (d := f_check_marks) rfl rfl rfl fun cdv Ar outer s H E hr => ?_
  have nd := sc_check_marks.nd
  show GSs _ _ _ _ (b_check_marks (callN Lib k))
  exact (gss_cons (gs_if (GW.gt (gw_or (gt_not (gt_val (ge_fn A.o_is_fraction hr (takes_of rfl rfl rfl rfl) (by rfl) (ga_cons (ge_var 0 (pv 0)) ga_nil)))) (gw_or (gt_val (ge_fn A.o_less hr (takes_of rfl rfl rfl rfl) (by rfl) (ga_cons (ge_var 0 (pv 0)) (ga_cons (ge_ctup (by rfl) X.c_ZERO) ga_nil)))) (gw_or (gt_val (ge_fn A.o_less hr (takes_of rfl rfl rfl rfl) (by rfl) (ga_cons (ge_ctup (by rfl) X.c_ONE) (ga_cons (ge_var 0 (pv 0)) ga_nil)))) (gw_or1 (gt_cmp op_gt (ok_cmp _) (ge_ix ix_seq ok_ix (ge_var 0 (pv 0)) ge_int (fun _ _ => rfl)) (ge_cint (by rfl) X.c_MOST_BOTTOM) (nomark _))))))) (gss_one (gs_raise0 X.e_BadStep rfl (takes_of rfl rfl rfl rfl) (by rfl))) gss_nil) (gss_one (gs_if (gt_not (gt_val (ge_fn A.o_is_within hr (takes_of rfl rfl rfl rfl) (by rfl) (ga_cons (ge_var 1 (pv 1)) (ga_cons ge_int (ga_cons (ge_cint (by rfl) X.c_MOST_MARKS) ga_nil)))))) (gss_one (gs_raise0 X.e_BadNumber rfl (takes_of rfl rfl rfl rfl) (by rfl))) gss_nil)))
theorem st_check_marks (X : Fx K mg) (AA : ∀ j, j ≤ k → All P w K mg base j) (B : Tbs K base mg) : FnO P w K mg base (T K) Lib (k + 1) 76 "check_marks" (He.ga K "check_marks") ["step", "n"] :=
  (bn_check_marks X).elim fun fd z => ⟨X.g_check_marks, z.2.kp, fd, z.1, ok_check_marks z.2 X AA B⟩
theorem sc_places : FnScope ["step", "n", "i"] ["step", "n"] (defScope s_places) := ⟨rfl, rfl, rfl, by decide +kernel, rfl, by decide +kernel, by decide +kernel⟩
theorem bn_places (X : Fx K mg) : ∃ fd, Binds K fd ["step", "n"] [] ∧ FunD K "places" "places" (defArgs s_places) (defBody s_places) (defScope s_places) [] [] (He.ga K "places") fd := by
  obtain ⟨fd, Fd⟩ := X.d_places
  exact ⟨fd, Fd.bindsN fun _ _ _ _ _ _ us hl => match us, hl with | [_, _], _ => rfl, Fd⟩
theorem ok_places {fd : FuncData} (Fd : FunD K "places" "places" (defArgs s_places) (defBody s_places) (defScope s_places) [] [] (He.ga K "places") fd) (X : Fx K mg) (AA : ∀ j, j ≤ k → All P w K mg base j) (B : Tbs K base mg) : FnOk P w K mg base (L2.CX P w) (k + 1) (He.ga K "places") fd ["step", "n"] (spOf K (T K) Lib (k + 1) 56) := by
  have A := AA k (Nat.le_refl k)
  refine fn_ok Fd sc_places (d := f_places) rfl rfl rfl fun cdv Ar outer s H E hr => ?_
  have nd := sc_places.nd
  show GSs _ _ _ _ (b_places (callN Lib k))
  exact (gss_one (gs_ret (ge_srtS (own := [("i", 2)]) rfl nd (by rfl) X.b_sorted (gi_rng1 (by rfl) X.b_range (ga_cons (ge_var 1 (pv 1)) ga_nil)) (blkOk_by (N := ["step", "n", "i"]) (sc := defScope s_places) (own := [("i", 2)]) (by decide +kernel)) (by decide) (fun _ _ _ _ _ => (gp_name (pg_name (i := 2) nd rfl (by first | exact Or.inl rfl | exact Or.inr rfl)))) (fun _ _ _ _ _ => gts_nil) (fun _ _ _ _ _ => (ge_op op_modN ok_mod (ge_op or_mul ok_mul (ge_var 2 (pv 2)) (ge_ix ix_seq ok_ix (ge_var 0 (pv 0)) ge_int (fun _ _ => rfl))) (ge_ix ix_seq ok_ix (ge_var 0 (pv 0)) ge_int (fun _ _ => rfl)))))))
theorem st_places (X : Fx K mg) (AA : ∀ j, j ≤ k → All P w K mg base j) (B : Tbs K base mg) : FnO P w K mg base (T K) Lib (k + 1) 56 "places" (He.ga K "places") ["step", "n"] :=
  (bn_places X).elim fun fd z => ⟨X.g_places, z.2.kp, fd, z.1, ok_places z.2 X AA B⟩
theorem sc_marks : FnScope ["step", "n", "place"] ["step", "n"] (defScope s_marks) := ⟨rfl, rfl, rfl, by decide +kernel, rfl, by decide +kernel, by decide +kernel⟩
theorem bn_marks (X : Fx K mg) : ∃ fd, Binds K fd ["step", "n"] [] ∧ FunD K "marks" "marks" (defArgs s_marks) (defBody s_marks) (defScope s_marks) [] [] (He.ga K "marks") fd := by
  obtain ⟨fd, Fd⟩ := X.d_marks
  exact ⟨fd, Fd.bindsN fun _ _ _ _ _ _ us hl => match us, hl with | [_, _], _ => rfl, Fd⟩
theorem ok_marks {fd : FuncData} (Fd : FunD K "marks" "marks" (defArgs s_marks) (defBody s_marks) (defScope s_marks) [] [] (He.ga K "marks") fd) (X : Fx K mg) (AA : ∀ j, j ≤ k → All P w K mg base j) (B : Tbs K base mg) : FnOk P w K mg base (L2.CX P w) (k + 1) (He.ga K "marks") fd ["step", "n"] (spOf K (T K) Lib (k + 1) 77) := by
  have A := AA k (Nat.le_refl k)
  refine fn_ok Fd sc_marks (d := f_marks) rfl rfl rfl fun cdv Ar outer s H E hr => ?_
  have nd := sc_marks.nd
  show GSs _ _ _ _ (b_marks (callN Lib k))
  exact (gss_cons (gs_expr (ge_fn A.o_check_marks hr (takes_of rfl rfl rfl rfl) (by rfl) (ga_cons (ge_var 0 (pv 0)) (ga_cons (ge_var 1 (pv 1)) ga_nil)))) (gss_one (gs_ret (ge_ty (cr_tupleOf rfl) ok_tupleOf (by rfl) X.b_tuple bt_tuple (ga_cons (ge_lc (own := [("place", 2)]) rfl nd (gi_seq (ge_fn A.o_places hr (takes_of rfl rfl rfl rfl) (by rfl) (ga_cons (ge_var 0 (pv 0)) (ga_cons (ge_var 1 (pv 1)) ga_nil)))) (blkOk_by (N := ["step", "n", "place"]) (sc := defScope s_marks) (own := [("place", 2)]) (by decide +kernel)) (by decide) (fun _ _ _ _ _ => (gp_name (pg_name (i := 2) nd rfl (by first | exact Or.inl rfl | exact Or.inr rfl)))) (fun _ _ _ _ _ => gts_nil) (fun _ _ _ _ _ => (ge_fn A.o_frac hr takes0 (by rfl) (ga_cons (ge_var 2 (pv 2)) (ga_cons (ge_ix ix_seq ok_ix (ge_var 0 (pv 0)) ge_int (fun _ _ => rfl)) ga_nil))))) ga_nil)))))
theorem st_marks (X : Fx K mg) (AA : ∀ j, j ≤ k → All P w K mg base j) (B : Tbs K base mg) : FnO P w K mg base (T K) Lib (k + 1) 77 "marks" (He.ga K "marks") ["step", "n"] :=
  (bn_marks X).elim fun fd z => ⟨X.g_marks, z.2.kp, fd, z.1, ok_marks z.2 X AA B⟩
theorem sc_arcs : FnScope ["step", "n", "some", "later", "found", "place", "after", "arc"] ["step", "n"] (defScope s_arcs) := ⟨rfl, rfl, rfl, by decide +kernel, rfl, by decide +kernel, by decide +kernel⟩
theorem bn_arcs (X : Fx K mg) : ∃ fd, Binds K fd ["step", "n"] [] ∧ FunD K "arcs" "arcs" (defArgs s_arcs) (defBody s_arcs) (defScope s_arcs) [] [] (He.ga K "arcs") fd := by
  obtain ⟨fd, Fd⟩ := X.d_arcs
  exact ⟨fd, Fd.bindsN fun _ _ _ _ _ _ us hl => match us, hl with | [_, _], _ => rfl, Fd⟩
theorem ok_arcs {fd : FuncData} (Fd : FunD K "arcs" "arcs" (defArgs s_arcs) (defBody s_arcs) (defScope s_arcs) [] [] (He.ga K "arcs") fd) (X : Fx K mg) (AA : ∀ j, j ≤ k → All P w K mg base j) (B : Tbs K base mg) : FnOk P w K mg base (L2.CX P w) (k + 1) (He.ga K "arcs") fd ["step", "n"] (spOf K (T K) Lib (k + 1) 78) := by
  have A := AA k (Nat.le_refl k)
  refine fn_ok Fd sc_arcs (d := f_arcs) rfl rfl rfl fun cdv Ar outer s H E hr => ?_
  have nd := sc_arcs.nd
  show GSs _ _ _ _ (b_arcs (callN Lib k))
  exact (gss_cons (gs_expr (ge_fn A.o_check_marks hr (takes_of rfl rfl rfl rfl) (by rfl) (ga_cons (ge_var 0 (pv 0)) (ga_cons (ge_var 1 (pv 1)) ga_nil)))) (gss_cons (gs_set (ps_set (i := 2) nd rfl (by first | exact Or.inl rfl | exact Or.inr rfl) (ge_fn A.o_places hr (takes_of rfl rfl rfl rfl) (by rfl) (ga_cons (ge_var 0 (pv 0)) (ga_cons (ge_var 1 (pv 1)) ga_nil))))) (gss_cons (gs_set (ps_set (i := 3) nd rfl (by first | exact Or.inl rfl | exact Or.inr rfl) (ge_op or_add ok_add (ge_cutL (ge_var 2 (pv 2)) ge_int) (ge_lst (ga_cons (ge_op or_add ok_add (ge_ix ix_seq ok_ix (ge_var 2 (pv 2)) ge_int (fun _ _ => rfl)) (ge_ix ix_seq ok_ix (ge_var 0 (pv 0)) ge_int (fun _ _ => rfl))) ga_nil))))) (gss_cons (gs_set (ps_set (i := 4) nd rfl (by first | exact Or.inl rfl | exact Or.inr rfl) (ge_srtS (own := [("place", 5), ("after", 6)]) rfl nd (by rfl) X.b_sorted (gi_zip (by rfl) X.b_zip (ga_cons (ge_var 2 (pv 2)) (ga_cons (ge_var 3 (pv 3)) ga_nil))) (blkOk_by (N := ["step", "n", "some", "later", "found", "place", "after", "arc"]) (sc := defScope s_arcs) (own := [("place", 5), ("after", 6)]) (by decide +kernel)) (by decide) (fun _ _ _ _ _ => (gp_tup rfl (gps_cons (gp_name (pg_name (i := 5) nd rfl (by first | exact Or.inl rfl | exact Or.inr rfl))) (gps_cons (gp_name (pg_name (i := 6) nd rfl (by first | exact Or.inl rfl | exact Or.inr rfl))) gps_nil)))) (fun _ _ _ _ _ => gts_nil) (fun _ _ _ _ _ => (ge_op op_sub ok_sub (ge_var 6 (pv 6)) (ge_var 5 (pv 5))))))) (gss_one (gs_ret (ge_ty (cr_tupleOf rfl) ok_tupleOf (by rfl) X.b_tuple bt_tuple (ga_cons (ge_lc (own := [("arc", 7)]) rfl nd (gi_seq (ge_var 4 (pv 4))) (blkOk_by (N := ["step", "n", "some", "later", "found", "place", "after", "arc"]) (sc := defScope s_arcs) (own := [("arc", 7)]) (by decide +kernel)) (by decide) (fun _ _ _ _ _ => (gp_name (pg_name (i := 7) nd rfl (by first | exact Or.inl rfl | exact Or.inr rfl)))) (fun _ _ _ _ _ => gts_nil) (fun _ _ _ _ _ => (ge_fn A.o_frac hr takes0 (by rfl) (ga_cons (ge_var 7 (pv 7)) (ga_cons (ge_ix ix_seq ok_ix (ge_var 0 (pv 0)) ge_int (fun _ _ => rfl)) ga_nil))))) ga_nil))))))))
theorem st_arcs (X : Fx K mg) (AA : ∀ j, j ≤ k → All P w K mg base j) (B : Tbs K base mg) : FnO P w K mg base (T K) Lib (k + 1) 78 "arcs" (He.ga K "arcs") ["step", "n"] :=
  (bn_arcs X).elim fun fd z => ⟨X.g_arcs, z.2.kp, fd, z.1, ok_arcs z.2 X AA B⟩
theorem sc_law_hand : FnScope ["script", "cells", "cell"] ["script"] (defScope s_law_hand) := ⟨rfl, rfl, rfl, by decide +kernel, rfl, by decide +kernel, by decide +kernel⟩
theorem bn_law_hand (X : Fx K mg) : ∃ fd, Binds K fd ["script"] [] ∧ FunD K "_law_hand" "_law_hand" (defArgs s_law_hand) (defBody s_law_hand) (defScope s_law_hand) [] [] (He.ga K "_law_hand") fd := by
  obtain ⟨fd, Fd⟩ := X.d_law_hand
  exact ⟨fd, Fd.bindsN fun _ _ _ _ _ _ us hl => match us, hl with | [_], _ => rfl, Fd⟩
theorem ok_law_hand {fd : FuncData} (Fd : FunD K "_law_hand" "_law_hand" (defArgs s_law_hand) (defBody s_law_hand) (defScope s_law_hand) [] [] (He.ga K "_law_hand") fd) (X : Fx K mg) (AA : ∀ j, j ≤ k → All P w K mg base j) (B : Tbs K base mg) : FnOk P w K mg base (L2.CX P w) (k + 1) (He.ga K "_law_hand") fd ["script"] (spOf K (T K) Lib (k + 1) 89) := by
  have A := AA k (Nat.le_refl k)
  refine fn_ok Fd sc_law_hand (d := f_law_hand) rfl rfl rfl fun cdv Ar outer s H E hr => ?_
  have nd := sc_law_hand.nd
  show GSs _ _ _ _ (b_law_hand (callN Lib k))
  exact (gss_cons (gs_setLc (i := 1) (own := [("cell", 2)]) rfl nd rfl rfl (sw_true rfl rfl rfl (by decide +kernel)) (gi_seq (ge_cutU (ge_var 0 (pv 0)) ge_int)) (blkOk_by (N := ["script", "cells", "cell"]) (sc := defScope s_law_hand) (own := [("cell", 2)]) (by decide +kernel)) (by decide) (fun _ _ _ _ _ => (gp_name (pg_name (i := 2) nd rfl (by first | exact Or.inl rfl | exact Or.inr rfl)))) (fun _ _ _ _ _ => gts_nil) (fun _ _ _ _ _ => (ge_blt call_abs ok_abs (by rfl) X.b_abs bt_abs (ga_cons (ge_ty cr_int ok_int (by rfl) X.b_int bt_int (ga_cons (ge_var 2 (pv 2)) ga_nil)) ga_nil)))) (gss_one (gs_ret (ge_lstM (ga_cons (ge_var 1 (pv 1)) (ga_cons ge_int (ga_cons ge_int (ga_cons (ge_op or_add ok_add ge_int (ge_op or_mul ok_mul ge_int (ge_blt or_len ok_len (by rfl) X.b_len bt_len (ga_cons (ge_var 1 (pv 1)) ga_nil)))) (ga_cons ge_int ga_nil)))))))))
theorem st_law_hand (X : Fx K mg) (AA : ∀ j, j ≤ k → All P w K mg base j) (B : Tbs K base mg) : FnO P w K mg base (T K) Lib (k + 1) 89 "_law_hand" (He.ga K "_law_hand") ["script"] :=
  (bn_law_hand X).elim fun fd z => ⟨X.g_law_hand, z.2.kp, fd, z.1, ok_law_hand z.2 X AA B⟩
theorem sc_law_draw : FnScope ["hand", "many", "cell", "digit", "number"] ["hand", "many"] (defScope s_law_draw) := ⟨rfl, rfl, rfl, by decide +kernel, rfl, by decide +kernel, by decide +kernel⟩
theorem bn_law_draw (X : Fx K mg) : ∃ fd, Binds K fd ["hand", "many"] [] ∧ FunD K "_law_draw" "_law_draw" (defArgs s_law_draw) (defBody s_law_draw) (defScope s_law_draw) [] [] (He.ga K "_law_draw") fd := by
  obtain ⟨fd, Fd⟩ := X.d_law_draw
  exact ⟨fd, Fd.bindsN fun _ _ _ _ _ _ us hl => match us, hl with | [_, _], _ => rfl, Fd⟩
theorem ok_law_draw {fd : FuncData} (Fd : FunD K "_law_draw" "_law_draw" (defArgs s_law_draw) (defBody s_law_draw) (defScope s_law_draw) [] [] (He.ga K "_law_draw") fd) (X : Fx K mg) (AA : ∀ j, j ≤ k → All P w K mg base j) (B : Tbs K base mg) : FnOk P w K mg base (L2.CX P w) (k + 1) (He.ga K "_law_draw") fd ["hand", "many"] (spOf K (T K) Lib (k + 1) 90) := by
  have A := AA k (Nat.le_refl k)
  refine fn_ok Fd sc_law_draw (d := f_law_draw) rfl rfl rfl fun cdv Ar outer s H E hr => ?_
  have nd := sc_law_draw.nd
  show GSs _ _ _ _ (b_law_draw (callN Lib k))
  exact (gss_cons (gs_if (GW.gt (gw_and (gt_cmp (or_eq hr.units) ok_eq (ge_ix ix_seq ok_ix (ge_var 0 (pv 0)) ge_int (fun _ _ => rfl)) ge_int (nomark _)) (gw_and1 (gt_cmp op_lt (ok_cmp _) (ge_ix ix_seq ok_ix (ge_var 0 (pv 0)) ge_int (fun _ _ => rfl)) (ge_blt or_len ok_len (by rfl) X.b_len bt_len (ga_cons (ge_ix ix_seq ok_ix (ge_var 0 (pv 0)) ge_int (fun _ _ => rfl)) ga_nil)) (nomark _))))) (gss_cons (gs_set (ps_set (i := 2) nd rfl (by first | exact Or.inl rfl | exact Or.inr rfl) (ge_ix ix_seq ok_ix (ge_ix ix_seq ok_ix (ge_var 0 (pv 0)) ge_int (fun _ _ => rfl)) (ge_ix ix_seq ok_ix (ge_var 0 (pv 0)) ge_int (fun _ _ => rfl)) (fun _ _ => rfl)))) (gss_cons (gs_setIx (ps_asg (ge_op or_add ok_add (ge_ix ix_seq ok_ix (ge_var 0 (pv 0)) ge_int (fun _ _ => rfl)) ge_int) (pg_sub (ge_var 0 (pv 0)) ge_int set_list))) (gss_cons (gs_setIx (ps_asg (ge_op op_modN ok_mod (ge_ty cr_int ok_int (by rfl) X.b_int bt_int (ga_cons (ge_op or_add ok_add (ge_op or_add ok_add (ge_op or_mul ok_mul (ge_ix ix_seq ok_ix (ge_var 0 (pv 0)) ge_int (fun _ _ => rfl)) ge_int) (ge_op or_mul ok_mul (ge_var 2 (pv 2)) ge_int)) ge_int) ga_nil)) ge_int) (pg_sub (ge_var 0 (pv 0)) ge_int set_list))) (gss_one (gs_if (gt_cmp op_ge (ok_cmp _) (ge_var 2 (pv 2)) (ge_op op_pow ok_pow ge_int ge_int) (nomark _)) (gss_one (gs_setIx (ps_asg (ge_var 2 (pv 2)) (pg_sub (ge_var 0 (pv 0)) ge_int set_list)))) gss_nil))))) gss_nil) (gss_cons (gs_if (gt_cmp op_gt (ok_cmp _) (ge_ix ix_seq ok_ix (ge_var 0 (pv 0)) ge_int (fun _ _ => rfl)) ge_int (nomark _)) (gss_cons (gs_set (ps_set (i := 3) nd rfl (by first | exact Or.inl rfl | exact Or.inr rfl) (ge_op op_modN ok_mod (ge_ty cr_int ok_int (by rfl) X.b_int bt_int (ga_cons (ge_ix ix_seq ok_ix (ge_var 0 (pv 0)) ge_int (fun _ _ => rfl)) ga_nil)) (ge_var 1 (pv 1))))) (gss_cons (gs_setIx (ps_asg (ge_op or_div ok_div (ge_ix ix_seq ok_ix (ge_var 0 (pv 0)) ge_int (fun _ _ => rfl)) (ge_var 1 (pv 1))) (pg_sub (ge_var 0 (pv 0)) ge_int set_list))) (gss_one (gs_ret (ge_var 3 (pv 3)))))) gss_nil) (gss_cons (gs_setIx (ps_asg (ge_op or_add ok_add (ge_ix ix_seq ok_ix (ge_var 0 (pv 0)) ge_int (fun _ _ => rfl)) ge_int) (pg_sub (ge_var 0 (pv 0)) ge_int set_list))) (gss_cons (gs_set (ps_set (i := 4) nd rfl (by first | exact Or.inl rfl | exact Or.inr rfl) (ge_op op_modN ok_mod (ge_ty cr_int ok_int (by rfl) X.b_int bt_int (ga_cons (ge_op or_mul ok_mul (ge_ty cr_int ok_int (by rfl) X.b_int bt_int (ga_cons (ge_op or_add ok_add (ge_ix ix_seq ok_ix (ge_var 0 (pv 0)) ge_int (fun _ _ => rfl)) (ge_op or_mul ok_mul ge_int (ge_ix ix_seq ok_ix (ge_var 0 (pv 0)) ge_int (fun _ _ => rfl)))) ga_nil)) ge_int) ga_nil)) ge_int))) (gss_cons (gs_set (ps_set (i := 4) nd rfl (by first | exact Or.inl rfl | exact Or.inr rfl) (ge_op op_modN ok_mod (ge_ty cr_int ok_int (by rfl) X.b_int bt_int (ga_cons (ge_op or_mul ok_mul (ge_var 4 (pv 4)) (ge_op or_add ok_add (ge_op or_div ok_div (ge_var 4 (pv 4)) ge_int) ge_int)) ga_nil)) ge_int))) (gss_cons (gs_set (ps_set (i := 4) nd rfl (by first | exact Or.inl rfl | exact Or.inr rfl) (ge_op op_modN ok_mod (ge_ty cr_int ok_int (by rfl) X.b_int bt_int (ga_cons (ge_op or_mul ok_mul (ge_var 4 (pv 4)) (ge_op or_add ok_add (ge_op or_div ok_div (ge_var 4 (pv 4)) ge_int) ge_int)) ga_nil)) ge_int))) (gss_one (gs_ret (ge_op op_modN ok_mod (ge_ty cr_int ok_int (by rfl) X.b_int bt_int (ga_cons (ge_op or_div ok_div (ge_var 4 (pv 4)) ge_int) ga_nil)) (ge_var 1 (pv 1)))))))))))
theorem st_law_draw (X : Fx K mg) (AA : ∀ j, j ≤ k → All P w K mg base j) (B : Tbs K base mg) : FnO P w K mg base (T K) Lib (k + 1) 90 "_law_draw" (He.ga K "_law_draw") ["hand", "many"] :=
  (bn_law_draw X).elim fun fd z => ⟨X.g_law_draw, z.2.kp, fd, z.1, ok_law_draw z.2 X AA B⟩
theorem sc_law_any : FnScope ["hand", "some"] ["hand", "some"] (defScope s_law_any) := ⟨rfl, rfl, rfl, by decide +kernel, rfl, by decide +kernel, by decide +kernel⟩
theorem bn_law_any (X : Fx K mg) : ∃ fd, Binds K fd ["hand", "some"] [] ∧ FunD K "_law_any" "_law_any" (defArgs s_law_any) (defBody s_law_any) (defScope s_law_any) [] [] (He.ga K "_law_any") fd := by
  obtain ⟨fd, Fd⟩ := X.d_law_any
  exact ⟨fd, Fd.bindsN fun _ _ _ _ _ _ us hl => match us, hl with | [_, _], _ => rfl, Fd⟩
theorem ok_law_any {fd : FuncData} (Fd : FunD K "_law_any" "_law_any" (defArgs s_law_any) (defBody s_law_any) (defScope s_law_any) [] [] (He.ga K "_law_any") fd) (X : Fx K mg) (AA : ∀ j, j ≤ k → All P w K mg base j) (B : Tbs K base mg) : FnOk P w K mg base (L2.CX P w) (k + 1) (He.ga K "_law_any") fd ["hand", "some"] (spOf K (T K) Lib (k + 1) 91) := by
  have A := AA k (Nat.le_refl k)
  refine fn_ok Fd sc_law_any (d := f_law_any) rfl rfl rfl fun cdv Ar outer s H E hr => ?_
  have nd := sc_law_any.nd
  show GSs _ _ _ _ (b_law_any (callN Lib k))
  exact (gss_one (gs_ret (ge_ix ix_seq ok_ix (ge_var 1 (pv 1)) (ge_fn A.o_law_draw hr (takes_of rfl rfl rfl rfl) (by rfl) (ga_cons (ge_var 0 (pv 0)) (ga_cons (ge_blt or_len ok_len (by rfl) X.b_len bt_len (ga_cons (ge_var 1 (pv 1)) ga_nil)) ga_nil))) (fun _ _ => rfl))))
theorem st_law_any (X : Fx K mg) (AA : ∀ j, j ≤ k → All P w K mg base j) (B : Tbs K base mg) : FnO P w K mg base (T K) Lib (k + 1) 91 "_law_any" (He.ga K "_law_any") ["hand", "some"] :=
  (bn_law_any X).elim fun fd z => ⟨X.g_law_any, z.2.kp, fd, z.1, ok_law_any z.2 X AA B⟩
theorem sc_law_is : FnScope ["answer", "due", "one", "other"] ["answer", "due"] (defScope s_law_is) := ⟨rfl, rfl, rfl, by decide +kernel, rfl, by decide +kernel, by decide +kernel⟩
theorem bn_law_is (X : Fx K mg) : ∃ fd, Binds K fd ["answer", "due"] [] ∧ FunD K "_law_is" "_law_is" (defArgs s_law_is) (defBody s_law_is) (defScope s_law_is) [] [] (He.ga K "_law_is") fd := by
  obtain ⟨fd, Fd⟩ := X.d_law_is
  exact ⟨fd, Fd.bindsN fun _ _ _ _ _ _ us hl => match us, hl with | [_, _], _ => rfl, Fd⟩
theorem ok_law_is {fd : FuncData} (Fd : FunD K "_law_is" "_law_is" (defArgs s_law_is) (defBody s_law_is) (defScope s_law_is) [] [] (He.ga K "_law_is") fd) (X : Fx K mg) (AA : ∀ j, j ≤ k → All P w K mg base j) (B : Tbs K base mg) : FnOk P w K mg base (L2.CX P w) (k + 1) (He.ga K "_law_is") fd ["answer", "due"] (spOf K (T K) Lib (k + 1) 92) := by
  have A := AA k (Nat.le_refl k)
  refine fn_ok Fd sc_law_is (d := f_law_is) rfl rfl rfl fun cdv Ar outer s H E hr => ?_
  have nd := sc_law_is.nd
  show GSs _ _ _ _ (b_law_is (callN Lib k))
  exact (gss_cons (gs_if (GW.gt (gw_or (gt_isN (ge_var 1 (pv 1))) (gw_or1 (gt_isN (ge_var 0 (pv 0)))))) (gss_one (gs_ret (ge_and (ge_isN (ge_var 1 (pv 1))) (ge_one (ge_isN (ge_var 0 (pv 0))))))) gss_nil) (gss_cons (gs_if (gt_val (ge_isi2 (t := .tuple) (t' := .list) (by rfl) X.b_isinstance (ge_var 1 (pv 1)) (pe_tyname (by rfl) X.b_tuple bt_tuple) (pe_tyname (by rfl) X.b_list bt_list))) (gss_cons (gs_if (GW.gt (gw_or (gt_cmp (or_ne hr.units) ok_ne (ge_isi (t := .tuple) (by rfl) X.b_isinstance (ge_var 0 (pv 0)) (pe_tyname (by rfl) X.b_tuple bt_tuple)) (ge_isi (t := .tuple) (by rfl) X.b_isinstance (ge_var 1 (pv 1)) (pe_tyname (by rfl) X.b_tuple bt_tuple)) (nomark _)) (gw_or1 (gt_cmp (or_ne hr.units) ok_ne (ge_isi (t := .list) (by rfl) X.b_isinstance (ge_var 0 (pv 0)) (pe_tyname (by rfl) X.b_list bt_list)) (ge_isi (t := .list) (by rfl) X.b_isinstance (ge_var 1 (pv 1)) (pe_tyname (by rfl) X.b_list bt_list)) (nomark _))))) (gss_one (gs_ret ge_bl)) gss_nil) (gss_one (gs_ret (ge_and (ge_cmp (or_eq hr.units) ok_eq (ge_blt or_len ok_len (by rfl) X.b_len bt_len (ga_cons (ge_var 0 (pv 0)) ga_nil)) (ge_blt or_len ok_len (by rfl) X.b_len bt_len (ga_cons (ge_var 1 (pv 1)) ga_nil)) (nomark _)) (ge_one (ge_blt (cr_all rfl) ok_all (by rfl) X.b_all bt_all (ga_cons (ge_lc (own := [("one", 2), ("other", 3)]) rfl nd (gi_zip (by rfl) X.b_zip (ga_cons (ge_var 0 (pv 0)) (ga_cons (ge_var 1 (pv 1)) ga_nil))) (blkOk_by (N := ["answer", "due", "one", "other"]) (sc := defScope s_law_is) (own := [("one", 2), ("other", 3)]) (by decide +kernel)) (by decide) (fun _ _ _ _ _ => (gp_tup rfl (gps_cons (gp_name (pg_name (i := 2) nd rfl (by first | exact Or.inl rfl | exact Or.inr rfl))) (gps_cons (gp_name (pg_name (i := 3) nd rfl (by first | exact Or.inl rfl | exact Or.inr rfl))) gps_nil)))) (fun _ _ _ _ _ => gts_nil) (fun _ _ _ _ _ => (ge_fn A.o_law_is hr takes0 (by rfl) (ga_cons (ge_var 2 (pv 2)) (ga_cons (ge_var 3 (pv 3)) ga_nil))))) ga_nil))))))) gss_nil) (gss_cons (gs_if (GW.gt (gw_or (gt_cmp (or_ne hr.units) ok_ne (ge_isi (t := .bool) (by rfl) X.b_isinstance (ge_var 0 (pv 0)) (pe_tyname (by rfl) X.b_bool bt_bool)) (ge_isi (t := .bool) (by rfl) X.b_isinstance (ge_var 1 (pv 1)) (pe_tyname (by rfl) X.b_bool bt_bool)) (nomark _)) (gw_or1 (gt_cmp (or_ne hr.units) ok_ne (ge_isi (t := .int) (by rfl) X.b_isinstance (ge_var 0 (pv 0)) (pe_tyname (by rfl) X.b_int bt_int)) (ge_isi (t := .int) (by rfl) X.b_isinstance (ge_var 1 (pv 1)) (pe_tyname (by rfl) X.b_int bt_int)) (nomark _))))) (gss_one (gs_ret ge_bl)) gss_nil) (gss_one (gs_ret (ge_and (ge_cmp (or_eq hr.units) ok_eq (ge_isi (t := .str) (by rfl) X.b_isinstance (ge_var 0 (pv 0)) (pe_tyname (by rfl) X.b_str bt_str)) (ge_isi (t := .str) (by rfl) X.b_isinstance (ge_var 1 (pv 1)) (pe_tyname (by rfl) X.b_str bt_str)) (nomark _)) (ge_one (ge_cmp (or_eq hr.units) ok_eq (ge_var 0 (pv 0)) (ge_var 1 (pv 1)) (nomark _)))))))))
theorem st_law_is (X : Fx K mg) (AA : ∀ j, j ≤ k → All P w K mg base j) (B : Tbs K base mg) : FnO P w K mg base (T K) Lib (k + 1) 92 "_law_is" (He.ga K "_law_is") ["answer", "due"] :=
  (bn_law_is X).elim fun fd z => ⟨X.g_law_is, z.2.kp, fd, z.1, ok_law_is z.2 X AA B⟩
theorem sc_law_gcd : FnScope ["a", "b"] ["a", "b"] (defScope s_law_gcd) := ⟨rfl, rfl, rfl, by decide +kernel, rfl, by decide +kernel, by decide +kernel⟩
theorem bn_law_gcd (X : Fx K mg) : ∃ fd, Binds K fd ["a", "b"] [] ∧ FunD K "_law_gcd" "_law_gcd" (defArgs s_law_gcd) (defBody s_law_gcd) (defScope s_law_gcd) [] [] (He.ga K "_law_gcd") fd := by
  obtain ⟨fd, Fd⟩ := X.d_law_gcd
  exact ⟨fd, Fd.bindsN fun _ _ _ _ _ _ us hl => match us, hl with | [_, _], _ => rfl, Fd⟩
theorem ok_law_gcd {fd : FuncData} (Fd : FunD K "_law_gcd" "_law_gcd" (defArgs s_law_gcd) (defBody s_law_gcd) (defScope s_law_gcd) [] [] (He.ga K "_law_gcd") fd) (X : Fx K mg) (AA : ∀ j, j ≤ k → All P w K mg base j) (B : Tbs K base mg) : FnOk P w K mg base (L2.CX P w) (k + 1) (He.ga K "_law_gcd") fd ["a", "b"] (spOf K (T K) Lib (k + 1) 109) := by
  have A := AA k (Nat.le_refl k)
  refine fn_ok Fd sc_law_gcd (d := f_law_gcd) rfl rfl rfl fun cdv Ar outer s H E hr => ?_
  have nd := sc_law_gcd.nd
  show GSs _ _ _ _ (b_law_gcd (callN Lib k))
  exact (gss_cons (gs_swp2 (ps_par (i := 0) (j := 1) rfl nd rfl rfl (by decide) rfl rfl (ga_cons (ge_blt call_abs ok_abs (by rfl) X.b_abs bt_abs (ga_cons (ge_var 0 (pv 0)) ga_nil)) (ga_cons (ge_blt call_abs ok_abs (by rfl) X.b_abs bt_abs (ga_cons (ge_var 1 (pv 1)) ga_nil)) ga_nil)) (by rfl))) (gss_cons (gs_while (passes_of rfl) (gt_cmp op_gt (ok_cmp _) (ge_var 1 (pv 1)) ge_int (nomark _)) (gss_one (gs_swp2 (ps_par (i := 0) (j := 1) rfl nd rfl rfl (by decide) rfl rfl (ga_cons (ge_var 1 (pv 1)) (ga_cons (ge_op op_modN ok_mod (ge_ty cr_int ok_int (by rfl) X.b_int bt_int (ga_cons (ge_var 0 (pv 0)) ga_nil)) (ge_var 1 (pv 1))) ga_nil)) (by rfl))))) (gss_one (gs_ret (ge_var 0 (pv 0))))))
theorem st_law_gcd (X : Fx K mg) (AA : ∀ j, j ≤ k → All P w K mg base j) (B : Tbs K base mg) : FnO P w K mg base (T K) Lib (k + 1) 109 "_law_gcd" (He.ga K "_law_gcd") ["a", "b"] :=
  (bn_law_gcd X).elim fun fd z => ⟨X.g_law_gcd, z.2.kp, fd, z.1, ok_law_gcd z.2 X AA B⟩
theorem sc_law_frac : FnScope ["n", "d", "g"] ["n", "d"] (defScope s_law_frac) := ⟨rfl, rfl, rfl, by decide +kernel, rfl, by decide +kernel, by decide +kernel⟩
theorem bn_law_frac (X : Fx K mg) : ∃ fd, Binds K fd ["n", "d"] [] ∧ FunD K "_law_frac" "_law_frac" (defArgs s_law_frac) (defBody s_law_frac) (defScope s_law_frac) [] [] (He.ga K "_law_frac") fd := by
  obtain ⟨fd, Fd⟩ := X.d_law_frac
  exact ⟨fd, Fd.bindsN fun _ _ _ _ _ _ us hl => match us, hl with | [_, _], _ => rfl, Fd⟩
theorem ok_law_frac {fd : FuncData} (Fd : FunD K "_law_frac" "_law_frac" (defArgs s_law_frac) (defBody s_law_frac) (defScope s_law_frac) [] [] (He.ga K "_law_frac") fd) (X : Fx K mg) (AA : ∀ j, j ≤ k → All P w K mg base j) (B : Tbs K base mg) : FnOk P w K mg base (L2.CX P w) (k + 1) (He.ga K "_law_frac") fd ["n", "d"] (spOf K (T K) Lib (k + 1) 110) := by
  have A := AA k (Nat.le_refl k)
  refine fn_ok Fd sc_law_frac (d := f_law_frac) rfl rfl rfl fun cdv Ar outer s H E hr => ?_
  have nd := sc_law_frac.nd
  show GSs _ _ _ _ (b_law_frac (callN Lib k))
  exact (gss_cons (gs_if (gt_cmp op_lt (ok_cmp _) (ge_var 1 (pv 1)) ge_int (nomark _)) (gss_one (gs_swp2 (ps_par (i := 0) (j := 1) rfl nd rfl rfl (by decide) rfl rfl (ga_cons (ge_op op_sub ok_sub ge_int (ge_var 0 (pv 0))) (ga_cons (ge_op op_sub ok_sub ge_int (ge_var 1 (pv 1))) ga_nil)) (by rfl)))) gss_nil) (gss_cons (gs_set (ps_set (i := 2) nd rfl (by first | exact Or.inl rfl | exact Or.inr rfl) (ge_fn A.o_law_gcd hr (takes_of rfl rfl rfl rfl) (by rfl) (ga_cons (ge_var 0 (pv 0)) (ga_cons (ge_var 1 (pv 1)) ga_nil))))) (gss_one (gs_ret (ge_tup (k := 2) rfl (by decide) (ga_cons (ge_op or_div ok_div (ge_var 0 (pv 0)) (ge_var 2 (pv 2))) (ga_cons (ge_op or_div ok_div (ge_var 1 (pv 1)) (ge_var 2 (pv 2))) ga_nil)) rfl)))))
theorem st_law_frac (X : Fx K mg) (AA : ∀ j, j ≤ k → All P w K mg base j) (B : Tbs K base mg) : FnO P w K mg base (T K) Lib (k + 1) 110 "_law_frac" (He.ga K "_law_frac") ["n", "d"] :=
  (bn_law_frac X).elim fun fd z => ⟨X.g_law_frac, z.2.kp, fd, z.1, ok_law_frac z.2 X AA B⟩
theorem sc_law_until : FnScope ["rule", "day", "step", "start"] ["rule", "day"] (defScope s_law_until) := ⟨rfl, rfl, rfl, by decide +kernel, rfl, by decide +kernel, by decide +kernel⟩
theorem bn_law_until (X : Fx K mg) : ∃ fd, Binds K fd ["rule", "day"] [] ∧ FunD K "_law_until" "_law_until" (defArgs s_law_until) (defBody s_law_until) (defScope s_law_until) [] [] (He.ga K "_law_until") fd := by
  obtain ⟨fd, Fd⟩ := X.d_law_until
  exact ⟨fd, Fd.bindsN fun _ _ _ _ _ _ us hl => match us, hl with | [_, _], _ => rfl, Fd⟩
theorem ok_law_until {fd : FuncData} (Fd : FunD K "_law_until" "_law_until" (defArgs s_law_until) (defBody s_law_until) (defScope s_law_until) [] [] (He.ga K "_law_until") fd) (X : Fx K mg) (AA : ∀ j, j ≤ k → All P w K mg base j) (B : Tbs K base mg) : FnOk P w K mg base (L2.CX P w) (k + 1) (He.ga K "_law_until") fd ["rule", "day"] (spOf K (T K) Lib (k + 1) 111) := by
  have A := AA k (Nat.le_refl k)
  refine fn_ok Fd sc_law_until (d := f_law_until) rfl rfl rfl fun cdv Ar outer s H E hr => ?_
  have nd := sc_law_until.nd
  show GSs _ _ _ _ (b_law_until (callN Lib k))
  exact (gss_cons (gs_asg (ps_asg (ge_var 0 (pv 0)) (gp_tup rfl (gps_cons (gp_name (pg_name (i := 2) nd rfl (by first | exact Or.inl rfl | exact Or.inr rfl))) (gps_cons (gp_name (pg_name (i := 3) nd rfl (by first | exact Or.inl rfl | exact Or.inr rfl))) gps_nil))))) (gss_one (gs_ret (ge_op or_div ok_div (ge_op or_add ok_add (ge_op or_mul ok_mul (ge_op or_mul ok_mul (ge_var 1 (pv 1)) (ge_ix ix_seq ok_ix (ge_var 2 (pv 2)) ge_int (fun _ _ => rfl))) (ge_ix ix_seq ok_ix (ge_var 3 (pv 3)) ge_int (fun _ _ => rfl))) (ge_op or_mul ok_mul (ge_ix ix_seq ok_ix (ge_var 3 (pv 3)) ge_int (fun _ _ => rfl)) (ge_ix ix_seq ok_ix (ge_var 2 (pv 2)) ge_int (fun _ _ => rfl)))) (ge_op or_mul ok_mul (ge_ix ix_seq ok_ix (ge_var 2 (pv 2)) ge_int (fun _ _ => rfl)) (ge_ix ix_seq ok_ix (ge_var 3 (pv 3)) ge_int (fun _ _ => rfl)))))))
theorem st_law_until (X : Fx K mg) (AA : ∀ j, j ≤ k → All P w K mg base j) (B : Tbs K base mg) : FnO P w K mg base (T K) Lib (k + 1) 111 "_law_until" (He.ga K "_law_until") ["rule", "day"] :=
  (bn_law_until X).elim fun fd z => ⟨X.g_law_until, z.2.kp, fd, z.1, ok_law_until z.2 X AA B⟩
theorem sc_law_by : FnScope ["rule", "first", "length", "numbers", "day", "one", "other"] ["rule", "first", "length"] (defScope s_law_by) := ⟨rfl, rfl, rfl, by decide +kernel, rfl, by decide +kernel, by decide +kernel⟩
theorem bn_law_by (X : Fx K mg) : ∃ fd, Binds K fd ["rule", "first", "length"] [] ∧ FunD K "_law_by" "_law_by" (defArgs s_law_by) (defBody s_law_by) (defScope s_law_by) [] [] (He.ga K "_law_by") fd := by
  obtain ⟨fd, Fd⟩ := X.d_law_by
  exact ⟨fd, Fd.bindsN fun _ _ _ _ _ _ us hl => match us, hl with | [_, _, _], _ => rfl, Fd⟩
theorem ok_law_by {fd : FuncData} (Fd : FunD K "_law_by" "_law_by" (defArgs s_law_by) (defBody s_law_by) (defScope s_law_by) [] [] (He.ga K "_law_by") fd) (X : Fx K mg) (AA : ∀ j, j ≤ k → All P w K mg base j) (B : Tbs K base mg) : FnOk P w K mg base (L2.CX P w) (k + 1) (He.ga K "_law_by") fd ["rule", "first", "length"] (spOf K (T K) Lib (k + 1) 112) := by
  have A := AA k (Nat.le_refl k)
  refine fn_ok Fd sc_law_by (d := f_law_by) rfl rfl rfl fun cdv Ar outer s H E hr => ?_
  have nd := sc_law_by.nd
  show GSs _ _ _ _ (b_law_by (callN Lib k))
  exact (gss_cons (gs_setLc (i := 3) (own := [("day", 4)]) rfl nd rfl rfl (sw_true rfl rfl rfl (by decide +kernel)) (gi_rng2 (by rfl) X.b_range (ga_cons (ge_var 1 (pv 1)) (ga_cons (ge_op or_add ok_add (ge_op or_add ok_add (ge_var 1 (pv 1)) (ge_var 2 (pv 2))) ge_int) ga_nil))) (blkOk_by (N := ["rule", "first", "length", "numbers", "day", "one", "other"]) (sc := defScope s_law_by) (own := [("day", 4)]) (by decide +kernel)) (by decide) (fun _ _ _ _ _ => (gp_name (pg_name (i := 4) nd rfl (by first | exact Or.inl rfl | exact Or.inr rfl)))) (fun _ _ _ _ _ => gts_nil) (fun _ _ _ _ _ => (ge_fn A.o_law_until hr takes0 (by rfl) (ga_cons (ge_var 0 (pv 0)) (ga_cons (ge_var 4 (pv 4)) ga_nil))))) (gss_one (gs_ret (ge_join ge_str (ge_lc (own := [("one", 5), ("other", 6)]) rfl nd (gi_zip (by rfl) X.b_zip (ga_cons (ge_var 3 (pv 3)) (ga_cons (ge_cutL (ge_var 3 (pv 3)) ge_int) ga_nil))) (blkOk_by (N := ["rule", "first", "length", "numbers", "day", "one", "other"]) (sc := defScope s_law_by) (own := [("one", 5), ("other", 6)]) (by decide +kernel)) (by decide) (fun _ _ _ _ _ => (gp_tup rfl (gps_cons (gp_name (pg_name (i := 5) nd rfl (by first | exact Or.inl rfl | exact Or.inr rfl))) (gps_cons (gp_name (pg_name (i := 6) nd rfl (by first | exact Or.inl rfl | exact Or.inr rfl))) gps_nil)))) (fun _ _ _ _ _ => gts_nil) (fun _ _ _ _ _ => (ge_if (gt_cmp op_gt (ok_cmp _) (ge_var 6 (pv 6)) (ge_var 5 (pv 5)) (nomark _)) ge_str ge_str)))))))
theorem st_law_by (X : Fx K mg) (AA : ∀ j, j ≤ k → All P w K mg base j) (B : Tbs K base mg) : FnO P w K mg base (T K) Lib (k + 1) 112 "_law_by" (He.ga K "_law_by") ["rule", "first", "length"] :=
  (bn_law_by X).elim fun fd z => ⟨X.g_law_by, z.2.kp, fd, z.1, ok_law_by z.2 X AA B⟩
theorem sc_law_step : FnScope ["hand", "wide", "bottom"] ["hand", "wide"] (defScope s_law_step) := ⟨rfl, rfl, rfl, by decide +kernel, rfl, by decide +kernel, by decide +kernel⟩
theorem bn_law_step (X : Fx K mg) : ∃ fd, Binds K fd ["hand", "wide"] [] ∧ FunD K "_law_step" "_law_step" (defArgs s_law_step) (defBody s_law_step) (defScope s_law_step) [] [] (He.ga K "_law_step") fd := by
  obtain ⟨fd, Fd⟩ := X.d_law_step
  exact ⟨fd, Fd.bindsN fun _ _ _ _ _ _ us hl => match us, hl with | [_, _], _ => rfl, Fd⟩
theorem ok_law_step {fd : FuncData} (Fd : FunD K "_law_step" "_law_step" (defArgs s_law_step) (defBody s_law_step) (defScope s_law_step) [] [] (He.ga K "_law_step") fd) (X : Fx K mg) (AA : ∀ j, j ≤ k → All P w K mg base j) (B : Tbs K base mg) : FnOk P w K mg base (L2.CX P w) (k + 1) (He.ga K "_law_step") fd ["hand", "wide"] (spOf K (T K) Lib (k + 1) 113) := by
  have A := AA k (Nat.le_refl k)
  refine fn_ok Fd sc_law_step (d := f_law_step) rfl rfl rfl fun cdv Ar outer s H E hr => ?_
  have nd := sc_law_step.nd
  show GSs _ _ _ _ (b_law_step (callN Lib k))
  exact (gss_cons (gs_set (ps_set (i := 2) nd rfl (by first | exact Or.inl rfl | exact Or.inr rfl) (ge_op or_add ok_add ge_int (ge_fn A.o_law_draw hr (takes_of rfl rfl rfl rfl) (by rfl) (ga_cons (ge_var 0 (pv 0)) (ga_cons (ge_fn A.o_law_any hr (takes_of rfl rfl rfl rfl) (by rfl) (ga_cons (ge_var 0 (pv 0)) (ga_cons (ge_lst (ga_cons ge_int (ga_cons ge_int (ga_cons (ge_var 1 (pv 1)) (ga_cons (ge_var 1 (pv 1)) ga_nil))))) ga_nil))) ga_nil)))))) (gss_one (gs_ret (ge_fn A.o_law_frac hr (takes_of rfl rfl rfl rfl) (by rfl) (ga_cons (ge_fn A.o_law_draw hr (takes_of rfl rfl rfl rfl) (by rfl) (ga_cons (ge_var 0 (pv 0)) (ga_cons (ge_op or_add ok_add (ge_var 2 (pv 2)) ge_int) ga_nil))) (ga_cons (ge_var 2 (pv 2)) ga_nil))))))
theorem st_law_step (X : Fx K mg) (AA : ∀ j, j ≤ k → All P w K mg base j) (B : Tbs K base mg) : FnO P w K mg base (T K) Lib (k + 1) 113 "_law_step" (He.ga K "_law_step") ["hand", "wide"] :=
  (bn_law_step X).elim fun fd z => ⟨X.g_law_step, z.2.kp, fd, z.1, ok_law_step z.2 X AA B⟩
theorem sc_law_spots : FnScope ["step", "size", "found", "at", "turn"] ["step", "size"] (defScope s_law_spots) := ⟨rfl, rfl, rfl, by decide +kernel, rfl, by decide +kernel, by decide +kernel⟩
theorem bn_law_spots (X : Fx K mg) : ∃ fd, Binds K fd ["step", "size"] [] ∧ FunD K "_law_spots" "_law_spots" (defArgs s_law_spots) (defBody s_law_spots) (defScope s_law_spots) [] [] (He.ga K "_law_spots") fd := by
  obtain ⟨fd, Fd⟩ := X.d_law_spots
  exact ⟨fd, Fd.bindsN fun _ _ _ _ _ _ us hl => match us, hl with | [_, _], _ => rfl, Fd⟩
theorem ok_law_spots {fd : FuncData} (Fd : FunD K "_law_spots" "_law_spots" (defArgs s_law_spots) (defBody s_law_spots) (defScope s_law_spots) [] [] (He.ga K "_law_spots") fd) (X : Fx K mg) (AA : ∀ j, j ≤ k → All P w K mg base j) (B : Tbs K base mg) : FnOk P w K mg base (L2.CX P w) (k + 1) (He.ga K "_law_spots") fd ["step", "size"] (spOf K (T K) Lib (k + 1) 352) := by
  have A := AA k (Nat.le_refl k)
  refine fn_ok Fd sc_law_spots (d := f_law_spots) rfl rfl rfl fun cdv Ar outer s H E hr => ?_
  have nd := sc_law_spots.nd
  show GSs _ _ _ _ (b_law_spots (callN Lib k))
  exact (gss_loc (gss_cons (gs_swp2 (ps_par (i := 2) (j := 3) rfl nd rfl rfl (by decide) rfl rfl (ga_cons (ge_dctM (gd_cons ge_int ge_bl gd_nil)) (ga_cons ge_int ga_nil)) (by rfl))) (gss_cons (gs_for (passes_of rfl) rfl (gi_rng1 (by rfl) X.b_range (ga_cons (ge_op op_sub ok_sub (ge_var 1 (pv 1)) ge_int) ga_nil)) (gp_name (pg_name (i := 4) nd rfl (by first | exact Or.inl rfl | exact Or.inr rfl))) (gss_cons (gs_set (ps_set (i := 3) nd rfl (by first | exact Or.inl rfl | exact Or.inr rfl) (ge_op op_modN ok_mod (ge_ty cr_int ok_int (by rfl) X.b_int bt_int (ga_cons (ge_op or_add ok_add (ge_var 3 (pv 3)) (ge_ix ix_seq ok_ix (ge_var 0 (pv 0)) ge_int (fun _ _ => rfl))) ga_nil)) (ge_ix ix_seq ok_ix (ge_var 0 (pv 0)) ge_int (fun _ _ => rfl))))) (gss_one (gs_putK hr.units (ge_var 2 (pv 2)) (ge_var 3 (pv 3)) ge_bl)))) (gss_one (gs_ret (ge_blt cr_sortA ok_sortedI (by rfl) X.b_sorted bt_sorted (ga_cons (ge_ty (call_list_dK rfl) ok_lstO (by rfl) X.b_list bt_list (ga_cons (ge_var 2 (pv 2)) ga_nil)) ga_nil)))))))
theorem st_law_spots (X : Fx K mg) (AA : ∀ j, j ≤ k → All P w K mg base j) (B : Tbs K base mg) : FnO P w K mg base (T K) Lib (k + 1) 352 "_law_spots" (He.ga K "_law_spots") ["step", "size"] :=
  (bn_law_spots X).elim fun fd z => ⟨X.g_law_spots, z.2.kp, fd, z.1, ok_law_spots z.2 X AA B⟩
theorem sc_law_far : FnScope ["spots", "bottom", "one", "other"] ["spots", "bottom"] (defScope s_law_far) := ⟨rfl, rfl, rfl, by decide +kernel, rfl, by decide +kernel, by decide +kernel⟩
theorem bn_law_far (X : Fx K mg) : ∃ fd, Binds K fd ["spots", "bottom"] [] ∧ FunD K "_law_far" "_law_far" (defArgs s_law_far) (defBody s_law_far) (defScope s_law_far) [] [] (He.ga K "_law_far") fd := by
  obtain ⟨fd, Fd⟩ := X.d_law_far
  exact ⟨fd, Fd.bindsN fun _ _ _ _ _ _ us hl => match us, hl with | [_, _], _ => rfl, Fd⟩
theorem ok_law_far {fd : FuncData} (Fd : FunD K "_law_far" "_law_far" (defArgs s_law_far) (defBody s_law_far) (defScope s_law_far) [] [] (He.ga K "_law_far") fd) (X : Fx K mg) (AA : ∀ j, j ≤ k → All P w K mg base j) (B : Tbs K base mg) : FnOk P w K mg base (L2.CX P w) (k + 1) (He.ga K "_law_far") fd ["spots", "bottom"] (spOf K (T K) Lib (k + 1) 353) := by
  have A := AA k (Nat.le_refl k)
  refine fn_ok Fd sc_law_far (d := f_law_far) rfl rfl rfl fun cdv Ar outer s H E hr => ?_
  have nd := sc_law_far.nd
  show GSs _ _ _ _ (b_law_far (callN Lib k))
  exact (gss_one (gs_ret (ge_lc (own := [("one", 2), ("other", 3)]) rfl nd (gi_zip (by rfl) X.b_zip (ga_cons (ge_var 0 (pv 0)) (ga_cons (ge_op or_add ok_add (ge_cutL (ge_var 0 (pv 0)) ge_int) (ge_lst (ga_cons (ge_var 1 (pv 1)) ga_nil))) ga_nil))) (blkOk_by (N := ["spots", "bottom", "one", "other"]) (sc := defScope s_law_far) (own := [("one", 2), ("other", 3)]) (by decide +kernel)) (by decide) (fun _ _ _ _ _ => (gp_tup rfl (gps_cons (gp_name (pg_name (i := 2) nd rfl (by first | exact Or.inl rfl | exact Or.inr rfl))) (gps_cons (gp_name (pg_name (i := 3) nd rfl (by first | exact Or.inl rfl | exact Or.inr rfl))) gps_nil)))) (fun _ _ _ _ _ => gts_nil) (fun _ _ _ _ _ => (ge_op op_sub ok_sub (ge_var 3 (pv 3)) (ge_var 2 (pv 2)))))))
theorem st_law_far (X : Fx K mg) (AA : ∀ j, j ≤ k → All P w K mg base j) (B : Tbs K base mg) : FnO P w K mg base (T K) Lib (k + 1) 353 "_law_far" (He.ga K "_law_far") ["spots", "bottom"] :=
  (bn_law_far X).elim fun fd z => ⟨X.g_law_far, z.2.kp, fd, z.1, ok_law_far z.2 X AA B⟩
theorem sc_law_told_right : FnScope ["step", "size", "spots", "far", "few", "due", "told", "other", "one"] ["step", "size"] (defScope s_law_told_right) := ⟨rfl, rfl, rfl, by decide +kernel, rfl, by decide +kernel, by decide +kernel⟩
theorem bn_law_told_right (X : Fx K mg) : ∃ fd, Binds K fd ["step", "size"] [] ∧ FunD K "_law_told_right" "_law_told_right" (defArgs s_law_told_right) (defBody s_law_told_right) (defScope s_law_told_right) [] [] (He.ga K "_law_told_right") fd := by
  obtain ⟨fd, Fd⟩ := X.d_law_told_right
  exact ⟨fd, Fd.bindsN fun _ _ _ _ _ _ us hl => match us, hl with | [_, _], _ => rfl, Fd⟩
theorem ok_law_told_right {fd : FuncData} (Fd : FunD K "_law_told_right" "_law_told_right" (defArgs s_law_told_right) (defBody s_law_told_right) (defScope s_law_told_right) [] [] (He.ga K "_law_told_right") fd) (X : Fx K mg) (AA : ∀ j, j ≤ k → All P w K mg base j) (B : Tbs K base mg) : FnOk P w K mg base (L2.CX P w) (k + 1) (He.ga K "_law_told_right") fd ["step", "size"] (spOf K (T K) Lib (k + 1) 354) := by
  have A := AA k (Nat.le_refl k)
  refine fn_ok Fd sc_law_told_right (d := f_law_told_right) rfl rfl rfl fun cdv Ar outer s H E hr => ?_
  have nd := sc_law_told_right.nd
  show GSs _ _ _ _ (b_law_told_right (callN Lib k))
  exact (gss_cons (gs_set (ps_set (i := 2) nd rfl (by first | exact Or.inl rfl | exact Or.inr rfl) (ge_fn A.o_law_spots hr (takes_of rfl rfl rfl rfl) (by rfl) (ga_cons (ge_var 0 (pv 0)) (ga_cons (ge_var 1 (pv 1)) ga_nil))))) (gss_cons (gs_set (ps_set (i := 3) nd rfl (by first | exact Or.inl rfl | exact Or.inr rfl) (ge_fn A.o_law_far hr (takes_of rfl rfl rfl rfl) (by rfl) (ga_cons (ge_var 2 (pv 2)) (ga_cons (ge_ix ix_seq ok_ix (ge_var 0 (pv 0)) ge_int (fun _ _ => rfl)) ga_nil))))) (gss_cons (gs_set (ps_set (i := 4) nd rfl (by first | exact Or.inl rfl | exact Or.inr rfl) (ge_blt cr_sortA ok_sortedI (by rfl) X.b_sorted bt_sorted (ga_cons (ge_lstPrs rfl (by rfl) X.b_list (by rfl) X.b_dict (ga_cons (ge_lc (own := [("one", 8)]) rfl nd (gi_seq (ge_var 3 (pv 3))) (blkOk_by (N := ["step", "size", "spots", "far", "few", "due", "told", "other", "one"]) (sc := defScope s_law_told_right) (own := [("one", 8)]) (by decide +kernel)) (by decide) (fun _ _ _ _ _ => (gp_name (pg_name (i := 8) nd rfl (by first | exact Or.inl rfl | exact Or.inr rfl)))) (fun _ _ _ _ _ => gts_nil) (fun _ _ _ _ _ => (ge_tup (k := 2) rfl (by decide) (ga_cons (ge_var 8 (pv 8)) (ga_cons ge_bl ga_nil)) rfl))) ga_nil)) ga_nil)))) (gss_cons (gs_set (ps_set (i := 5) nd rfl (by first | exact Or.inl rfl | exact Or.inr rfl) (ge_ty (cr_tupleOf rfl) ok_tupleOf (by rfl) X.b_tuple bt_tuple (ga_cons (ge_lc (own := [("one", 8)]) rfl nd (gi_seq (ge_var 2 (pv 2))) (blkOk_by (N := ["step", "size", "spots", "far", "few", "due", "told", "other", "one"]) (sc := defScope s_law_told_right) (own := [("one", 8)]) (by decide +kernel)) (by decide) (fun _ _ _ _ _ => (gp_name (pg_name (i := 8) nd rfl (by first | exact Or.inl rfl | exact Or.inr rfl)))) (fun _ _ _ _ _ => gts_nil) (fun _ _ _ _ _ => (ge_fn A.o_law_frac hr takes0 (by rfl) (ga_cons (ge_var 8 (pv 8)) (ga_cons (ge_ix ix_seq ok_ix (ge_var 0 (pv 0)) ge_int (fun _ _ => rfl)) ga_nil))))) ga_nil)))) (gss_cons (gs_set (ps_set (i := 6) nd rfl (by first | exact Or.inl rfl | exact Or.inr rfl) (ge_ty (cr_tupleOf rfl) ok_tupleOf (by rfl) X.b_tuple bt_tuple (ga_cons (ge_lc (own := [("one", 8)]) rfl nd (gi_seq (ge_var 4 (pv 4))) (blkOk_by (N := ["step", "size", "spots", "far", "few", "due", "told", "other", "one"]) (sc := defScope s_law_told_right) (own := [("one", 8)]) (by decide +kernel)) (by decide) (fun _ _ _ _ _ => (gp_name (pg_name (i := 8) nd rfl (by first | exact Or.inl rfl | exact Or.inr rfl)))) (fun _ _ _ _ _ => gts_nil) (fun _ _ _ _ _ => (ge_fn A.o_law_frac hr takes0 (by rfl) (ga_cons (ge_var 8 (pv 8)) (ga_cons (ge_ix ix_seq ok_ix (ge_var 0 (pv 0)) ge_int (fun _ _ => rfl)) ga_nil))))) ga_nil)))) (gss_cons (gs_if (gt_not (gt_val (ge_fn A.o_law_is hr (takes_of rfl rfl rfl rfl) (by rfl) (ga_cons (ge_lst (ga_cons (ge_fn A.o_marks hr (takes_of rfl rfl rfl rfl) (by rfl) (ga_cons (ge_var 0 (pv 0)) (ga_cons (ge_var 1 (pv 1)) ga_nil))) (ga_cons (ge_fn A.o_arcs hr (takes_of rfl rfl rfl rfl) (by rfl) (ga_cons (ge_var 0 (pv 0)) (ga_cons (ge_var 1 (pv 1)) ga_nil))) ga_nil))) (ga_cons (ge_lst (ga_cons (ge_var 5 (pv 5)) (ga_cons (ge_var 6 (pv 6)) ga_nil))) ga_nil))))) (gss_one (gs_ret ge_bl)) gss_nil) (gss_cons (gs_if (GW.gt (gw_or (gt_cmp (or_ne hr.units) ok_ne (ge_blt (cr_sum rfl) ok_sum (by rfl) X.b_sum bt_sum (ga_cons (ge_var 3 (pv 3)) ga_nil)) (ge_ix ix_seq ok_ix (ge_var 0 (pv 0)) ge_int (fun _ _ => rfl)) (nomark _)) (gw_or (gt_cmp op_gt (ok_cmp _) (ge_blt or_len ok_len (by rfl) X.b_len bt_len (ga_cons (ge_var 4 (pv 4)) ga_nil)) ge_int (nomark _)) (gw_or1 (GW.gt (gw_and (gt_cmp (or_eq hr.units) ok_eq (ge_blt or_len ok_len (by rfl) X.b_len bt_len (ga_cons (ge_var 4 (pv 4)) ga_nil)) ge_int (nomark _)) (gw_and1 (gt_cmp (or_ne hr.units) ok_ne (ge_ix ix_seq ok_ix (ge_var 4 (pv 4)) ge_int (fun _ _ => rfl)) (ge_op or_add ok_add (ge_ix ix_seq ok_ix (ge_var 4 (pv 4)) ge_int (fun _ _ => rfl)) (ge_ix ix_seq ok_ix (ge_var 4 (pv 4)) ge_int (fun _ _ => rfl))) (nomark _))))))))) (gss_one (gs_ret ge_bl)) gss_nil) (gss_cons (gs_set (ps_set (i := 7) nd rfl (by first | exact Or.inl rfl | exact Or.inr rfl) (ge_fn A.o_law_frac hr (takes_of rfl rfl rfl rfl) (by rfl) (ga_cons (ge_op op_sub ok_sub (ge_ix ix_seq ok_ix (ge_var 0 (pv 0)) ge_int (fun _ _ => rfl)) (ge_ix ix_seq ok_ix (ge_var 0 (pv 0)) ge_int (fun _ _ => rfl))) (ga_cons (ge_ix ix_seq ok_ix (ge_var 0 (pv 0)) ge_int (fun _ _ => rfl)) ga_nil))))) (gss_one (gs_ret (ge_and (ge_fn A.o_law_is hr (takes_of rfl rfl rfl rfl) (by rfl) (ga_cons (ge_fn A.o_arcs hr (takes_of rfl rfl rfl rfl) (by rfl) (ga_cons (ge_var 7 (pv 7)) (ga_cons (ge_var 1 (pv 1)) ga_nil))) (ga_cons (ge_var 6 (pv 6)) ga_nil))) (ge_one (ge_cmp (or_eq hr.units) ok_eq (ge_blt or_len ok_len (by rfl) X.b_len bt_len (ga_cons (ge_fn A.o_marks hr (takes_of rfl rfl rfl rfl) (by rfl) (ga_cons (ge_var 7 (pv 7)) (ga_cons (ge_var 1 (pv 1)) ga_nil))) ga_nil)) (ge_blt or_len ok_len (by rfl) X.b_len bt_len (ga_cons (ge_var 5 (pv 5)) ga_nil)) (nomark _))))))))))))))
theorem st_law_told_right (X : Fx K mg) (AA : ∀ j, j ≤ k → All P w K mg base j) (B : Tbs K base mg) : FnO P w K mg base (T K) Lib (k + 1) 354 "_law_told_right" (He.ga K "_law_told_right") ["step", "size"] :=
  (bn_law_told_right X).elim fun fd z => ⟨X.g_law_told_right, z.2.kp, fd, z.1, ok_law_told_right z.2 X AA B⟩
theorem sc_law_rows_right : FnScope ["step", "size", "found", "one", "start", "row", "turn"] ["step", "size"] (defScope s_law_rows_right) := ⟨rfl, rfl, rfl, by decide +kernel, rfl, by decide +kernel, by decide +kernel⟩
theorem bn_law_rows_right (X : Fx K mg) : ∃ fd, Binds K fd ["step", "size"] [] ∧ FunD K "_law_rows_right" "_law_rows_right" (defArgs s_law_rows_right) (defBody s_law_rows_right) (defScope s_law_rows_right) [] [] (He.ga K "_law_rows_right") fd := by
  obtain ⟨fd, Fd⟩ := X.d_law_rows_right
  exact ⟨fd, Fd.bindsN fun _ _ _ _ _ _ us hl => match us, hl with | [_, _], _ => rfl, Fd⟩
theorem ok_law_rows_right {fd : FuncData} (Fd : FunD K "_law_rows_right" "_law_rows_right" (defArgs s_law_rows_right) (defBody s_law_rows_right) (defScope s_law_rows_right) [] [] (He.ga K "_law_rows_right") fd) (X : Fx K mg) (AA : ∀ j, j ≤ k → All P w K mg base j) (B : Tbs K base mg) : FnOk P w K mg base (L2.CX P w) (k + 1) (He.ga K "_law_rows_right") fd ["step", "size"] (spOf K (T K) Lib (k + 1) 355) := by
  have A := AA k (Nat.le_refl k)
  refine fn_ok Fd sc_law_rows_right (d := f_law_rows_right) rfl rfl rfl fun cdv Ar outer s H E hr => ?_
  have nd := sc_law_rows_right.nd
  show GSs _ _ _ _ (b_law_rows_right (callN Lib k))
  exact (gss_loc (gss_cons (gs_set (ps_set (i := 2) nd rfl (by first | exact Or.inl rfl | exact Or.inr rfl) ge_dctM0)) (gss_cons (gs_for (passes_of rfl) rfl (gi_seq (ge_fn A.o_marks hr (takes_of rfl rfl rfl rfl) (by rfl) (ga_cons (ge_var 0 (pv 0)) (ga_cons (ge_var 1 (pv 1)) ga_nil)))) (gp_name (pg_name (i := 3) nd rfl (by first | exact Or.inl rfl | exact Or.inr rfl))) (gss_cons (gs_set (ps_set (i := 4) nd rfl (by first | exact Or.inl rfl | exact Or.inr rfl) (ge_fn A.o_law_frac hr (takes_of rfl rfl rfl rfl) (by rfl) (ga_cons (ge_op op_modN ok_mod (ge_ty cr_int ok_int (by rfl) X.b_int bt_int (ga_cons (ge_op op_sub ok_sub ge_int (ge_ix ix_seq ok_ix (ge_var 3 (pv 3)) ge_int (fun _ _ => rfl))) ga_nil)) (ge_ix ix_seq ok_ix (ge_var 3 (pv 3)) ge_int (fun _ _ => rfl))) (ga_cons (ge_ix ix_seq ok_ix (ge_var 3 (pv 3)) ge_int (fun _ _ => rfl)) ga_nil))))) (gss_cons (gs_set (ps_set (i := 5) nd rfl (by first | exact Or.inl rfl | exact Or.inr rfl) (ge_fn A.o_made hr (takes_of rfl rfl rfl rfl) (by rfl) (ga_cons (ge_tup (k := 2) rfl (by decide) (ga_cons (ge_var 0 (pv 0)) (ga_cons (ge_var 4 (pv 4)) ga_nil)) rfl) (ga_cons ge_int (ga_cons (ge_op op_sub ok_sub (ge_var 1 (pv 1)) ge_int) ga_nil)))))) (gss_cons (gs_if (gt_not (gt_val (ge_fn A.o_law_is hr (takes_of rfl rfl rfl rfl) (by rfl) (ga_cons (ge_var 5 (pv 5)) (ga_cons (ge_fn A.o_law_by hr (takes_of rfl rfl rfl rfl) (by rfl) (ga_cons (ge_tup (k := 2) rfl (by decide) (ga_cons (ge_var 0 (pv 0)) (ga_cons (ge_var 4 (pv 4)) ga_nil)) rfl) (ga_cons ge_int (ga_cons (ge_op op_sub ok_sub (ge_var 1 (pv 1)) ge_int) ga_nil)))) ga_nil))))) (gss_one (gs_ret ge_bl)) gss_nil) (gss_one (gs_putK hr.units (ge_var 2 (pv 2)) (ge_var 5 (pv 5)) ge_bl)))))) (gss_cons (gs_for (passes_of rfl) rfl (gi_rng1 (by rfl) X.b_range (ga_cons (ge_ix ix_seq ok_ix (ge_var 0 (pv 0)) ge_int (fun _ _ => rfl)) ga_nil)) (gp_name (pg_name (i := 6) nd rfl (by first | exact Or.inl rfl | exact Or.inr rfl))) (gss_one (gs_putK hr.units (ge_var 2 (pv 2)) (ge_fn A.o_made hr (takes_of rfl rfl rfl rfl) (by rfl) (ga_cons (ge_tup (k := 2) rfl (by decide) (ga_cons (ge_var 0 (pv 0)) (ga_cons (ge_fn A.o_law_frac hr (takes_of rfl rfl rfl rfl) (by rfl) (ga_cons (ge_var 6 (pv 6)) (ga_cons (ge_ix ix_seq ok_ix (ge_var 0 (pv 0)) ge_int (fun _ _ => rfl)) ga_nil))) ga_nil)) rfl) (ga_cons ge_int (ga_cons (ge_op op_sub ok_sub (ge_var 1 (pv 1)) ge_int) ga_nil)))) ge_bl))) (gss_one (gs_ret (ge_cmp (or_eq hr.units) ok_eq (ge_blt call_lenD ok_lenO (by rfl) X.b_len bt_len (ga_cons (ge_var 2 (pv 2)) ga_nil)) (ge_blt or_len ok_len (by rfl) X.b_len bt_len (ga_cons (ge_fn A.o_marks hr (takes_of rfl rfl rfl rfl) (by rfl) (ga_cons (ge_var 0 (pv 0)) (ga_cons (ge_var 1 (pv 1)) ga_nil))) ga_nil)) (nomark _))))))))
theorem st_law_rows_right (X : Fx K mg) (AA : ∀ j, j ≤ k → All P w K mg base j) (B : Tbs K base mg) : FnO P w K mg base (T K) Lib (k + 1) 355 "_law_rows_right" (He.ga K "_law_rows_right") ["step", "size"] :=
  (bn_law_rows_right X).elim fun fd z => ⟨X.g_law_rows_right, z.2.kp, fd, z.1, ok_law_rows_right z.2 X AA B⟩
theorem sc_law_drawn_step : FnScope ["hand", "kind", "one", "other", "turn", "top", "bottom", "times"] ["hand"] (defScope s_law_drawn_step) := ⟨rfl, rfl, rfl, by decide +kernel, rfl, by decide +kernel, by decide +kernel⟩
theorem bn_law_drawn_step (X : Fx K mg) : ∃ fd, Binds K fd ["hand"] [] ∧ FunD K "_law_drawn_step" "_law_drawn_step" (defArgs s_law_drawn_step) (defBody s_law_drawn_step) (defScope s_law_drawn_step) [] [] (He.ga K "_law_drawn_step") fd := by
  obtain ⟨fd, Fd⟩ := X.d_law_drawn_step
  exact ⟨fd, Fd.bindsN fun _ _ _ _ _ _ us hl => match us, hl with | [_], _ => rfl, Fd⟩
theorem ok_law_drawn_step {fd : FuncData} (Fd : FunD K "_law_drawn_step" "_law_drawn_step" (defArgs s_law_drawn_step) (defBody s_law_drawn_step) (defScope s_law_drawn_step) [] [] (He.ga K "_law_drawn_step") fd) (X : Fx K mg) (AA : ∀ j, j ≤ k → All P w K mg base j) (B : Tbs K base mg) : FnOk P w K mg base (L2.CX P w) (k + 1) (He.ga K "_law_drawn_step") fd ["hand"] (spOf K (T K) Lib (k + 1) 356) := by
  have A := AA k (Nat.le_refl k)
  refine fn_ok Fd sc_law_drawn_step (d := f_law_drawn_step) rfl rfl rfl fun cdv Ar outer s H E hr => ?_
  have nd := sc_law_drawn_step.nd
  show GSs _ _ _ _ (b_law_drawn_step (callN Lib k))
  exact (gss_cons (gs_set (ps_set (i := 1) nd rfl (by first | exact Or.inl rfl | exact Or.inr rfl) (ge_fn A.o_law_draw hr (takes_of rfl rfl rfl rfl) (by rfl) (ga_cons (ge_var 0 (pv 0)) (ga_cons ge_int ga_nil))))) (gss_cons (gs_if (gt_cmp (or_eq hr.units) ok_eq (ge_var 1 (pv 1)) ge_int (nomark _)) (gss_one (gs_ret (ge_fn A.o_law_any hr (takes_of rfl rfl rfl rfl) (by rfl) (ga_cons (ge_var 0 (pv 0)) (ga_cons (ge_lst (ga_cons (ge_tup (k := 2) rfl (by decide) (ga_cons ge_int (ga_cons ge_int ga_nil)) rfl) (ga_cons (ge_tup (k := 2) rfl (by decide) (ga_cons ge_int (ga_cons ge_int ga_nil)) rfl) (ga_cons (ge_tup (k := 2) rfl (by decide) (ga_cons ge_int (ga_cons ge_int ga_nil)) rfl) (ga_cons (ge_tup (k := 2) rfl (by decide) (ga_cons ge_int (ga_cons (ge_op op_pow ok_pow ge_int ge_int) ga_nil)) rfl) (ga_cons (ge_tup (k := 2) rfl (by decide) (ga_cons ge_int (ga_cons (ge_op op_pow ok_pow ge_int ge_int) ga_nil)) rfl) (ga_cons (ge_tup (k := 2) rfl (by decide) (ga_cons ge_int (ga_cons ge_int ga_nil)) rfl) (ga_cons (ge_tup (k := 2) rfl (by decide) (ga_cons ge_int (ga_cons ge_int ga_nil)) rfl) ga_nil)))))))) ga_nil))))) gss_nil) (gss_cons (gs_if (gt_cmp (or_eq hr.units) ok_eq (ge_var 1 (pv 1)) ge_int (nomark _)) (gss_cons (gs_swp2 (ps_par (i := 2) (j := 3) rfl nd rfl rfl (by decide) rfl rfl (ga_cons ge_int (ga_cons (ge_op or_add ok_add ge_int (ge_fn A.o_law_draw hr (takes_of rfl rfl rfl rfl) (by rfl) (ga_cons (ge_var 0 (pv 0)) (ga_cons ge_int ga_nil)))) ga_nil)) (by rfl))) (gss_cons (gs_for (passes_of rfl) rfl (gi_rng1 (by rfl) X.b_range (ga_cons (ge_op or_add ok_add ge_int (ge_fn A.o_law_draw hr (takes_of rfl rfl rfl rfl) (by rfl) (ga_cons (ge_var 0 (pv 0)) (ga_cons ge_int ga_nil)))) ga_nil)) (gp_name (pg_name (i := 4) nd rfl (by first | exact Or.inl rfl | exact Or.inr rfl))) (gss_one (gs_swp2 (ps_par (i := 2) (j := 3) rfl nd rfl rfl (by decide) rfl rfl (ga_cons (ge_var 3 (pv 3)) (ga_cons (ge_op or_add ok_add (ge_var 2 (pv 2)) (ge_var 3 (pv 3))) ga_nil)) (by rfl))))) (gss_one (gs_ret (ge_fn A.o_law_frac hr (takes_of rfl rfl rfl rfl) (by rfl) (ga_cons (ge_var 2 (pv 2)) (ga_cons (ge_var 3 (pv 3)) ga_nil))))))) gss_nil) (gss_cons (gs_if (gt_cmp (or_eq hr.units) ok_eq (ge_var 1 (pv 1)) ge_int (nomark _)) (gss_cons (gs_swp2 (ps_par (i := 5) (j := 6) rfl nd rfl rfl (by decide) rfl rfl (ga_cons (ge_op or_add ok_add ge_int (ge_fn A.o_law_draw hr (takes_of rfl rfl rfl rfl) (by rfl) (ga_cons (ge_var 0 (pv 0)) (ga_cons ge_int ga_nil)))) (ga_cons (ge_op or_add ok_add ge_int (ge_fn A.o_law_draw hr (takes_of rfl rfl rfl rfl) (by rfl) (ga_cons (ge_var 0 (pv 0)) (ga_cons ge_int ga_nil)))) ga_nil)) (by rfl))) (gss_cons (gs_set (ps_set (i := 7) nd rfl (by first | exact Or.inl rfl | exact Or.inr rfl) (ge_op or_add ok_add ge_int (ge_fn A.o_law_draw hr (takes_of rfl rfl rfl rfl) (by rfl) (ga_cons (ge_var 0 (pv 0)) (ga_cons ge_int ga_nil)))))) (gss_one (gs_ret (ge_fn A.o_law_frac hr (takes_of rfl rfl rfl rfl) (by rfl) (ga_cons (ge_op or_add ok_add (ge_op or_mul ok_mul (ge_var 5 (pv 5)) (ge_var 7 (pv 7))) (ge_fn A.o_law_draw hr (takes_of rfl rfl rfl rfl) (by rfl) (ga_cons (ge_var 0 (pv 0)) (ga_cons ge_int ga_nil)))) (ga_cons (ge_op or_add ok_add (ge_op or_mul ok_mul (ge_var 6 (pv 6)) (ge_var 7 (pv 7))) ge_int) ga_nil))))))) gss_nil) (gss_one (gs_ret (ge_fn A.o_law_step hr (takes_of rfl rfl rfl rfl) (by rfl) (ga_cons (ge_var 0 (pv 0)) (ga_cons (ge_op op_pow ok_pow ge_int ge_int) ga_nil)))))))))
theorem st_law_drawn_step (X : Fx K mg) (AA : ∀ j, j ≤ k → All P w K mg base j) (B : Tbs K base mg) : FnO P w K mg base (T K) Lib (k + 1) 356 "_law_drawn_step" (He.ga K "_law_drawn_step") ["hand"] :=
  (bn_law_drawn_step X).elim fun fd z => ⟨X.g_law_drawn_step, z.2.kp, fd, z.1, ok_law_drawn_step z.2 X AA B⟩
theorem sc_law_refused_right : FnScope ["hand", "good", "odd", "far", "turn", "bad", "wrong", "words"] ["hand"] (defScope s_law_refused_right) := ⟨rfl, rfl, rfl, by decide +kernel, rfl, by decide +kernel, by decide +kernel⟩
theorem bn_law_refused_right (X : Fx K mg) : ∃ fd, Binds K fd ["hand"] [] ∧ FunD K "_law_refused_right" "_law_refused_right" (defArgs s_law_refused_right) (defBody s_law_refused_right) (defScope s_law_refused_right) [] [] (He.ga K "_law_refused_right") fd := by
  obtain ⟨fd, Fd⟩ := X.d_law_refused_right
  exact ⟨fd, Fd.bindsN fun _ _ _ _ _ _ us hl => match us, hl with | [_], _ => rfl, Fd⟩
theorem ok_law_refused_right {fd : FuncData} (Fd : FunD K "_law_refused_right" "_law_refused_right" (defArgs s_law_refused_right) (defBody s_law_refused_right) (defScope s_law_refused_right) [] [] (He.ga K "_law_refused_right") fd) (X : Fx K mg) (AA : ∀ j, j ≤ k → All P w K mg base j) (B : Tbs K base mg) : FnOk P w K mg base (L2.CX P w) (k + 1) (He.ga K "_law_refused_right") fd ["hand"] (spOf K (T K) Lib (k + 1) 358) := by
  have A := AA k (Nat.le_refl k)
  refine fn_okC Fd sc_law_refused_right (d := f_law_refused_right_v3) rfl rfl rfl fun cdv hcd Ar outer s H E hr => ?_
  obtain rfl := cdv_of hcd
  have nd := sc_law_refused_right.nd
  show GSs _ _ _ _ (b_law_refused_right_v3 (callN Lib k))
  exact (gss_cons (gs_set (ps_set (i := 1) nd rfl (by first | exact Or.inl rfl | exact Or.inr rfl) (ge_fn A.o_law_drawn_step hr (takes_of rfl rfl rfl rfl) (by rfl) (ga_cons (ge_var 0 (pv 0)) ga_nil)))) (gss_cons (gs_set (ps_set (i := 2) nd rfl (by first | exact Or.inl rfl | exact Or.inr rfl) (ge_lstM (ga_cons ge_non (ga_cons ge_int (ga_cons ge_int (ga_cons ge_bl (ga_cons ge_str (ga_cons (ge_tup (k := 1) rfl (by decide) (ga_cons ge_int ga_nil) rfl) (ga_cons (ge_tup (k := 2) rfl (by decide) (ga_cons ge_int (ga_cons ge_int ga_nil)) rfl) (ga_cons (ge_tup (k := 2) rfl (by decide) (ga_cons ge_int (ga_cons ge_int ga_nil)) rfl) (ga_cons (ge_tup (k := 2) rfl (by decide) (ga_cons (ge_un un_neg ok_neg ge_int) (ga_cons ge_int ga_nil)) rfl) (ga_cons (ge_tup (k := 2) rfl (by decide) (ga_cons ge_int (ga_cons ge_int ga_nil)) rfl) (ga_cons (ge_tup (k := 2) rfl (by decide) (ga_cons ge_int (ga_cons ge_int ga_nil)) rfl) (ga_cons (ge_tup (k := 2) rfl (by decide) (ga_cons ge_int (ga_cons (ge_un un_neg ok_neg ge_int) ga_nil)) rfl) (ga_cons (ge_lst (ga_cons ge_int (ga_cons ge_int ga_nil))) (ga_cons (ge_tup (k := 3) rfl (by decide) (ga_cons ge_int (ga_cons ge_int (ga_cons ge_int ga_nil))) rfl) ga_nil))))))))))))))))) (gss_cons (gs_expr (ge_mlst PySem.F.slot_list_append PySem.F.type_list_append mt_append ok_append (ge_var 2 (pv 2)) (ga_cons (ge_tup (k := 2) rfl (by decide) (ga_cons ge_int (ga_cons ge_int ga_nil)) rfl) ga_nil))) (gss_cons (gs_frz (gs_set (ps_set (i := 2) nd rfl (by first | exact Or.inl rfl | exact Or.inr rfl) (ge_op or_add ok_addM (ge_var 2 (pv 2)) (ge_lst (ga_cons (ge_tup (k := 2) rfl (by decide) (ga_cons ge_bl (ga_cons ge_int ga_nil)) rfl) (ga_cons (ge_tup (k := 2) rfl (by decide) (ga_cons ge_int (ga_cons ge_bl ga_nil)) rfl) (ga_cons (ge_tup (k := 2) rfl (by decide) (ga_cons ge_int (ga_cons ge_int ga_nil)) rfl) (ga_cons (ge_tup (k := 2) rfl (by decide) (ga_cons ge_str (ga_cons ge_str ga_nil)) rfl) (ga_cons (ge_tup (k := 2) rfl (by decide) (ga_cons ge_non (ga_cons ge_int ga_nil)) rfl) (ga_cons (ge_tup (k := 2) rfl (by decide) (ga_cons (ge_op op_pow ok_pow ge_int ge_int) (ga_cons (ge_op or_add ok_add (ge_op op_pow ok_pow ge_int ge_int) ge_int) ga_nil)) rfl) (ga_cons (ge_tup (k := 2) rfl (by decide) (ga_cons (ge_un un_neg ok_neg (ge_op op_pow ok_pow ge_int ge_int)) (ga_cons ge_int ga_nil)) rfl) (ga_cons ge_dct0 (ga_cons (ge_tup (k := 0) rfl (by decide) ga_nil rfl) ga_nil)))))))))))))) (gss_cons (gs_set (ps_set (i := 3) nd rfl (by first | exact Or.inl rfl | exact Or.inr rfl) (ge_lst (ga_cons ge_int (ga_cons (ge_un un_neg ok_neg ge_int) (ga_cons ge_int (ga_cons ge_non (ga_cons ge_bl (ga_cons ge_str (ga_cons (ge_tup (k := 1) rfl (by decide) (ga_cons ge_int ga_nil) rfl) (ga_cons (ge_lst ga_nil) (ga_cons (ge_op op_pow ok_pow ge_int ge_int) (ga_cons (ge_op op_pow ok_pow ge_int ge_int) ga_nil))))))))))))) (gss_cons (gs_for (passes_of rfl) rfl (gi_rng1 (by rfl) X.b_range (ga_cons ge_int ga_nil)) (gp_name (pg_name (i := 4) nd rfl (by first | exact Or.inl rfl | exact Or.inr rfl))) (gss_cons (gs_asg (ps_asg (ge_tup (k := 2) rfl (by decide) (ga_cons (ge_fn A.o_law_any hr (takes_of rfl rfl rfl rfl) (by rfl) (ga_cons (ge_var 0 (pv 0)) (ga_cons (ge_var 2 (pv 2)) ga_nil))) (ga_cons (ge_fn A.o_law_any hr (takes_of rfl rfl rfl rfl) (by rfl) (ga_cons (ge_var 0 (pv 0)) (ga_cons (ge_var 3 (pv 3)) ga_nil))) ga_nil)) rfl) (gp_tup rfl (gps_cons (gp_name (pg_name (i := 5) nd rfl (by first | exact Or.inl rfl | exact Or.inr rfl))) (gps_cons (gp_name (pg_name (i := 6) nd rfl (by first | exact Or.inl rfl | exact Or.inr rfl))) gps_nil))))) (gss_cons (gs_set (ps_set (i := 7) nd rfl (by first | exact Or.inl rfl | exact Or.inr rfl) (ge_lstM (ga_cons (ge_toldC (by rfl) fun j hj => (bn_law_word X).elim fun fd z => ge_told (k := j) (c := (He.cT K ("_law_refused_right", none)).1) (P := (He.cT K ("_law_refused_right", none)).2) z.2 (by rfl) X.g_law_word z.1 sc_law_word rfl (by first | exact Or.inl rfl | exact Or.inr rfl) rfl (fun cdg f pn s H th act => td_law_word X act) B.tb_law_refused_right rfl (.head _) (fun q hq e => tabU_ok X.u q hq _ (.head _) e) (by subst hj; exact hr) (LamX.lamS_by (show LamX.lamSB (defScope s_law_refused_right) _ = true from by decide +kernel)) rfl (fun _ _ _ _ _ => rfl) (fun Ar outer s H E f c1 hr => (ge_fnB hj (by rfl) (AA j (by omega)).o_marks hr (takes_of rfl rfl rfl rfl) (by rfl) (ga_cons (ge_var 5 (pv 5)) (ga_cons (ge_var 6 (pv 6)) ga_nil))))) ga_nil)))) (gss_cons (gs_expr (ge_mlst PySem.F.slot_list_append PySem.F.type_list_append mt_append ok_append (ge_var 7 (pv 7)) (ga_cons (ge_toldC (by rfl) fun j hj => (bn_law_word X).elim fun fd z => ge_told (k := j) (c := (He.cT K ("_law_refused_right", none)).1) (P := (He.cT K ("_law_refused_right", none)).2) z.2 (by rfl) X.g_law_word z.1 sc_law_word rfl (by first | exact Or.inl rfl | exact Or.inr rfl) rfl (fun cdg f pn s H th act => td_law_word X act) B.tb_law_refused_right rfl (.head _) (fun q hq e => tabU_ok X.u q hq _ (.head _) e) (by subst hj; exact hr) (LamX.lamS_by (show LamX.lamSB (defScope s_law_refused_right) _ = true from by decide +kernel)) rfl (fun _ _ _ _ _ => rfl) (fun Ar outer s H E f c1 hr => (ge_fnB hj (by rfl) (AA j (by omega)).o_arcs hr (takes_of rfl rfl rfl rfl) (by rfl) (ga_cons (ge_var 5 (pv 5)) (ga_cons (ge_var 6 (pv 6)) ga_nil))))) ga_nil))) (gss_cons (gs_expr (ge_mlst PySem.F.slot_list_append PySem.F.type_list_append mt_append ok_append (ge_var 7 (pv 7)) (ga_cons (ge_toldC (by rfl) fun j hj => (bn_law_word X).elim fun fd z => ge_told (k := j) (c := (He.cT K ("_law_refused_right", none)).1) (P := (He.cT K ("_law_refused_right", none)).2) z.2 (by rfl) X.g_law_word z.1 sc_law_word rfl (by first | exact Or.inl rfl | exact Or.inr rfl) rfl (fun cdg f pn s H th act => td_law_word X act) B.tb_law_refused_right rfl (.head _) (fun q hq e => tabU_ok X.u q hq _ (.head _) e) (by subst hj; exact hr) (LamX.lamS_by (show LamX.lamSB (defScope s_law_refused_right) _ = true from by decide +kernel)) rfl (fun _ _ _ _ _ => rfl) (fun Ar outer s H E f c1 hr => (ge_fnB hj (by rfl) (AA j (by omega)).o_marks hr (takes_of rfl rfl rfl rfl) (by rfl) (ga_cons (ge_var 5 (pv 5)) (ga_cons ge_int ga_nil))))) ga_nil))) (gss_cons (gs_expr (ge_mlst PySem.F.slot_list_append PySem.F.type_list_append mt_append ok_append (ge_var 7 (pv 7)) (ga_cons (ge_toldC (by rfl) fun j hj => (bn_law_word X).elim fun fd z => ge_told (k := j) (c := (He.cT K ("_law_refused_right", none)).1) (P := (He.cT K ("_law_refused_right", none)).2) z.2 (by rfl) X.g_law_word z.1 sc_law_word rfl (by first | exact Or.inl rfl | exact Or.inr rfl) rfl (fun cdg f pn s H th act => td_law_word X act) B.tb_law_refused_right rfl (.head _) (fun q hq e => tabU_ok X.u q hq _ (.head _) e) (by subst hj; exact hr) (LamX.lamS_by (show LamX.lamSB (defScope s_law_refused_right) _ = true from by decide +kernel)) rfl (fun _ _ _ _ _ => rfl) (fun Ar outer s H E f c1 hr => (ge_fnB hj (by rfl) (AA j (by omega)).o_arcs hr (takes_of rfl rfl rfl rfl) (by rfl) (ga_cons (ge_var 5 (pv 5)) (ga_cons ge_int ga_nil))))) ga_nil))) (gss_cons (gs_expr (ge_mlst PySem.F.slot_list_append PySem.F.type_list_append mt_append ok_append (ge_var 7 (pv 7)) (ga_cons (ge_toldC (by rfl) fun j hj => (bn_law_word X).elim fun fd z => ge_told (k := j) (c := (He.cT K ("_law_refused_right", none)).1) (P := (He.cT K ("_law_refused_right", none)).2) z.2 (by rfl) X.g_law_word z.1 sc_law_word rfl (by first | exact Or.inl rfl | exact Or.inr rfl) rfl (fun cdg f pn s H th act => td_law_word X act) B.tb_law_refused_right rfl (.head _) (fun q hq e => tabU_ok X.u q hq _ (.head _) e) (by subst hj; exact hr) (LamX.lamS_by (show LamX.lamSB (defScope s_law_refused_right) _ = true from by decide +kernel)) rfl (fun _ _ _ _ _ => rfl) (fun Ar outer s H E f c1 hr => (ge_fnB hj (by rfl) (AA j (by omega)).o_marks hr (takes_of rfl rfl rfl rfl) (by rfl) (ga_cons (ge_var 1 (pv 1)) (ga_cons (ge_var 6 (pv 6)) ga_nil))))) ga_nil))) (gss_cons (gs_expr (ge_mlst PySem.F.slot_list_append PySem.F.type_list_append mt_append ok_append (ge_var 7 (pv 7)) (ga_cons (ge_toldC (by rfl) fun j hj => (bn_law_word X).elim fun fd z => ge_told (k := j) (c := (He.cT K ("_law_refused_right", none)).1) (P := (He.cT K ("_law_refused_right", none)).2) z.2 (by rfl) X.g_law_word z.1 sc_law_word rfl (by first | exact Or.inl rfl | exact Or.inr rfl) rfl (fun cdg f pn s H th act => td_law_word X act) B.tb_law_refused_right rfl (.head _) (fun q hq e => tabU_ok X.u q hq _ (.head _) e) (by subst hj; exact hr) (LamX.lamS_by (show LamX.lamSB (defScope s_law_refused_right) _ = true from by decide +kernel)) rfl (fun _ _ _ _ _ => rfl) (fun Ar outer s H E f c1 hr => (ge_fnB hj (by rfl) (AA j (by omega)).o_arcs hr (takes_of rfl rfl rfl rfl) (by rfl) (ga_cons (ge_var 1 (pv 1)) (ga_cons (ge_var 6 (pv 6)) ga_nil))))) ga_nil))) (gss_cons (gs_expr (ge_mlst PySem.F.slot_list_append PySem.F.type_list_append mt_append ok_append (ge_var 7 (pv 7)) (ga_cons (ge_toldC (by rfl) fun j hj => (bn_law_word X).elim fun fd z => ge_told (k := j) (c := (He.cT K ("_law_refused_right", none)).1) (P := (He.cT K ("_law_refused_right", none)).2) z.2 (by rfl) X.g_law_word z.1 sc_law_word rfl (by first | exact Or.inl rfl | exact Or.inr rfl) rfl (fun cdg f pn s H th act => td_law_word X act) B.tb_law_refused_right rfl (.head _) (fun q hq e => tabU_ok X.u q hq _ (.head _) e) (by subst hj; exact hr) (LamX.lamS_by (show LamX.lamSB (defScope s_law_refused_right) _ = true from by decide +kernel)) rfl (fun _ _ _ _ _ => rfl) (fun Ar outer s H E f c1 hr => (ge_fnB hj (by rfl) (AA j (by omega)).o_arcs hr (takes_of rfl rfl rfl rfl) (by rfl) (ga_cons (ge_var 1 (pv 1)) (ga_cons (ge_op or_add ok_add ge_int (ge_fnB hj (by rfl) (AA j (by omega)).o_law_draw hr (takes_of rfl rfl rfl rfl) (by rfl) (ga_cons (ge_var 0 (pv 0)) (ga_cons ge_int ga_nil)))) ga_nil))))) ga_nil))) (gss_one (gs_frz (gs_if (gt_cmp (or_ne hr.units) ok_ne (ge_var 7 (pv 7)) (ge_op or_add ok_add (ge_op or_add ok_add (ge_op or_mul ok_mul (ge_lst (ga_cons ge_str ga_nil)) ge_int) (ge_op or_mul ok_mul (ge_lst (ga_cons ge_str ga_nil)) ge_int)) (ge_lst (ga_cons ge_str ga_nil))) (nomark _)) (gss_one (gs_ret ge_bl)) gss_nil)))))))))))) (gss_one (gs_ret ge_bl))))))))
theorem st_law_refused_right (X : Fx K mg) (AA : ∀ j, j ≤ k → All P w K mg base j) (B : Tbs K base mg) : FnO P w K mg base (T K) Lib (k + 1) 358 "_law_refused_right" (He.ga K "_law_refused_right") ["hand"] :=
  (bn_law_refused_right X).elim fun fd z => ⟨X.g_law_refused_right, z.2.kp, fd, z.1, ok_law_refused_right z.2 X AA B⟩
theorem sc_law_known_right : FnScope ["told", "due"] [] (defScope s_law_known_right) := ⟨rfl, rfl, rfl, by decide +kernel, rfl, by decide +kernel, by decide +kernel⟩
theorem bn_law_known_right (X : Fx K mg) : ∃ fd, Binds K fd [] [] ∧ FunD K "_law_known_right" "_law_known_right" (defArgs s_law_known_right) (defBody s_law_known_right) (defScope s_law_known_right) [] [] (He.ga K "_law_known_right") fd := by
  obtain ⟨fd, Fd⟩ := X.d_law_known_right
  exact ⟨fd, Fd.bindsN fun _ _ _ _ _ _ us hl => match us, hl with | [], _ => rfl, Fd⟩
theorem ok_law_known_right {fd : FuncData} (Fd : FunD K "_law_known_right" "_law_known_right" (defArgs s_law_known_right) (defBody s_law_known_right) (defScope s_law_known_right) [] [] (He.ga K "_law_known_right") fd) (X : Fx K mg) (AA : ∀ j, j ≤ k → All P w K mg base j) (B : Tbs K base mg) : FnOk P w K mg base (L2.CX P w) (k + 1) (He.ga K "_law_known_right") fd [] (spOf K (T K) Lib (k + 1) 359) := by
  have A := AA k (Nat.le_refl k)
  refine fn_ok Fd sc_law_known_right (d := f_law_known_right_v2) rfl rfl rfl fun cdv Ar outer s H E hr => ?_
  have nd := sc_law_known_right.nd
  show GSs _ _ _ _ (b_law_known_right_v2 (callN Lib k))
  exact (gss_cons (gs_set (ps_set (i := 0) nd rfl (by first | exact Or.inl rfl | exact Or.inr rfl) (ge_lst (ga_cons (ge_fn A.o_marks hr (takes_of rfl rfl rfl rfl) (by rfl) (ga_cons (ge_tup (k := 2) rfl (by decide) (ga_cons ge_int (ga_cons ge_int ga_nil)) rfl) (ga_cons ge_int ga_nil))) (ga_cons (ge_fn A.o_arcs hr (takes_of rfl rfl rfl rfl) (by rfl) (ga_cons (ge_tup (k := 2) rfl (by decide) (ga_cons ge_int (ga_cons ge_int ga_nil)) rfl) (ga_cons ge_int ga_nil))) (ga_cons (ge_fn A.o_marks hr (takes_of rfl rfl rfl rfl) (by rfl) (ga_cons (ge_tup (k := 2) rfl (by decide) (ga_cons ge_int (ga_cons ge_int ga_nil)) rfl) (ga_cons ge_int ga_nil))) (ga_cons (ge_fn A.o_arcs hr (takes_of rfl rfl rfl rfl) (by rfl) (ga_cons (ge_tup (k := 2) rfl (by decide) (ga_cons ge_int (ga_cons ge_int ga_nil)) rfl) (ga_cons ge_int ga_nil))) (ga_cons (ge_fn A.o_marks hr (takes_of rfl rfl rfl rfl) (by rfl) (ga_cons (ge_tup (k := 2) rfl (by decide) (ga_cons ge_int (ga_cons ge_int ga_nil)) rfl) (ga_cons ge_int ga_nil))) (ga_cons (ge_fn A.o_arcs hr (takes_of rfl rfl rfl rfl) (by rfl) (ga_cons (ge_tup (k := 2) rfl (by decide) (ga_cons ge_int (ga_cons ge_int ga_nil)) rfl) (ga_cons ge_int ga_nil))) ga_nil))))))))) (gss_cons (gs_set (ps_set (i := 1) nd rfl (by first | exact Or.inl rfl | exact Or.inr rfl) (ge_lst (ga_cons (ge_tup (k := 4) rfl (by decide) (ga_cons (ge_tup (k := 2) rfl (by decide) (ga_cons ge_int (ga_cons ge_int ga_nil)) rfl) (ga_cons (ge_tup (k := 2) rfl (by decide) (ga_cons ge_int (ga_cons ge_int ga_nil)) rfl) (ga_cons (ge_tup (k := 2) rfl (by decide) (ga_cons ge_int (ga_cons ge_int ga_nil)) rfl) (ga_cons (ge_tup (k := 2) rfl (by decide) (ga_cons ge_int (ga_cons ge_int ga_nil)) rfl) ga_nil)))) rfl) (ga_cons (ge_tup (k := 2) rfl (by decide) (ga_cons (ge_tup (k := 2) rfl (by decide) (ga_cons ge_int (ga_cons ge_int ga_nil)) rfl) (ga_cons (ge_tup (k := 2) rfl (by decide) (ga_cons ge_int (ga_cons ge_int ga_nil)) rfl) ga_nil)) rfl) (ga_cons (ge_tup (k := 1) rfl (by decide) (ga_cons (ge_tup (k := 2) rfl (by decide) (ga_cons ge_int (ga_cons ge_int ga_nil)) rfl) ga_nil) rfl) (ga_cons (ge_tup (k := 1) rfl (by decide) (ga_cons (ge_tup (k := 2) rfl (by decide) (ga_cons ge_int (ga_cons ge_int ga_nil)) rfl) ga_nil) rfl) (ga_cons (ge_tup (k := 1) rfl (by decide) (ga_cons (ge_tup (k := 2) rfl (by decide) (ga_cons ge_int (ga_cons ge_int ga_nil)) rfl) ga_nil) rfl) (ga_cons (ge_tup (k := 1) rfl (by decide) (ga_cons (ge_tup (k := 2) rfl (by decide) (ga_cons ge_int (ga_cons ge_int ga_nil)) rfl) ga_nil) rfl) ga_nil))))))))) (gss_cons (gs_set (ps_set (i := 0) nd rfl (by first | exact Or.inl rfl | exact Or.inr rfl) (ge_op or_add ok_add (ge_var 0 (pv 0)) (ge_lst (ga_cons (ge_fn A.o_marks hr (takes_of rfl rfl rfl rfl) (by rfl) (ga_cons (ge_tup (k := 2) rfl (by decide) (ga_cons ge_int (ga_cons ge_int ga_nil)) rfl) (ga_cons ge_int ga_nil))) (ga_cons (ge_fn A.o_arcs hr (takes_of rfl rfl rfl rfl) (by rfl) (ga_cons (ge_tup (k := 2) rfl (by decide) (ga_cons ge_int (ga_cons ge_int ga_nil)) rfl) (ga_cons ge_int ga_nil))) (ga_cons (ge_fn A.o_arcs hr (takes_of rfl rfl rfl rfl) (by rfl) (ga_cons (ge_tup (k := 2) rfl (by decide) (ga_cons ge_int (ga_cons ge_int ga_nil)) rfl) (ga_cons ge_int ga_nil))) (ga_cons (ge_fn A.o_marks hr (takes_of rfl rfl rfl rfl) (by rfl) (ga_cons (ge_tup (k := 2) rfl (by decide) (ga_cons ge_int (ga_cons ge_int ga_nil)) rfl) (ga_cons ge_int ga_nil))) (ga_cons (ge_fn A.o_arcs hr (takes_of rfl rfl rfl rfl) (by rfl) (ga_cons (ge_tup (k := 2) rfl (by decide) (ga_cons ge_int (ga_cons ge_int ga_nil)) rfl) (ga_cons ge_int ga_nil))) ga_nil))))))))) (gss_cons (gs_set (ps_set (i := 1) nd rfl (by first | exact Or.inl rfl | exact Or.inr rfl) (ge_op or_add ok_add (ge_var 1 (pv 1)) (ge_lst (ga_cons (ge_tup (k := 4) rfl (by decide) (ga_cons (ge_tup (k := 2) rfl (by decide) (ga_cons ge_int (ga_cons ge_int ga_nil)) rfl) (ga_cons (ge_tup (k := 2) rfl (by decide) (ga_cons ge_int (ga_cons ge_int ga_nil)) rfl) (ga_cons (ge_tup (k := 2) rfl (by decide) (ga_cons ge_int (ga_cons ge_int ga_nil)) rfl) (ga_cons (ge_tup (k := 2) rfl (by decide) (ga_cons ge_int (ga_cons ge_int ga_nil)) rfl) ga_nil)))) rfl) (ga_cons (ge_tup (k := 3) rfl (by decide) (ga_cons (ge_tup (k := 2) rfl (by decide) (ga_cons ge_int (ga_cons ge_int ga_nil)) rfl) (ga_cons (ge_tup (k := 2) rfl (by decide) (ga_cons ge_int (ga_cons ge_int ga_nil)) rfl) (ga_cons (ge_tup (k := 2) rfl (by decide) (ga_cons ge_int (ga_cons ge_int ga_nil)) rfl) ga_nil))) rfl) (ga_cons (ge_tup (k := 1) rfl (by decide) (ga_cons (ge_tup (k := 2) rfl (by decide) (ga_cons ge_int (ga_cons ge_int ga_nil)) rfl) ga_nil) rfl) (ga_cons (ge_tup (k := 2) rfl (by decide) (ga_cons (ge_tup (k := 2) rfl (by decide) (ga_cons ge_int (ga_cons ge_int ga_nil)) rfl) (ga_cons (ge_tup (k := 2) rfl (by decide) (ga_cons ge_int (ga_cons ge_int ga_nil)) rfl) ga_nil)) rfl) ga_nil)))))))) (gss_one (gs_ret (ge_fn A.o_law_is hr (takes_of rfl rfl rfl rfl) (by rfl) (ga_cons (ge_var 0 (pv 0)) (ga_cons (ge_op or_add ok_add (ge_var 1 (pv 1)) (ge_lst (ga_cons (ge_tup (k := 3) rfl (by decide) (ga_cons (ge_tup (k := 2) rfl (by decide) (ga_cons ge_int (ga_cons ge_int ga_nil)) rfl) (ga_cons (ge_tup (k := 2) rfl (by decide) (ga_cons ge_int (ga_cons ge_int ga_nil)) rfl) (ga_cons (ge_tup (k := 2) rfl (by decide) (ga_cons ge_int (ga_cons ge_int ga_nil)) rfl) ga_nil))) rfl) ga_nil))) ga_nil)))))))))
theorem st_law_known_right (X : Fx K mg) (AA : ∀ j, j ≤ k → All P w K mg base j) (B : Tbs K base mg) : FnO P w K mg base (T K) Lib (k + 1) 359 "_law_known_right" (He.ga K "_law_known_right") [] :=
  (bn_law_known_right X).elim fun fd z => ⟨X.g_law_known_right, z.2.kp, fd, z.1, ok_law_known_right z.2 X AA B⟩
theorem sc_law : FnScope ["script", "hand", "turn", "step", "size", "some"] ["script"] (defScope s_law) := ⟨rfl, rfl, rfl, by decide +kernel, rfl, by decide +kernel, by decide +kernel⟩
theorem bn_law (X : Fx K mg) : ∃ fd, Binds K fd ["script"] [] ∧ FunD K "law" "law" (defArgs s_law) (defBody s_law) (defScope s_law) [] [] (He.ga K "law") fd := by
  obtain ⟨fd, Fd⟩ := X.d_law
  exact ⟨fd, Fd.bindsN fun _ _ _ _ _ _ us hl => match us, hl with | [_], _ => rfl, Fd⟩
theorem ok_law {fd : FuncData} (Fd : FunD K "law" "law" (defArgs s_law) (defBody s_law) (defScope s_law) [] [] (He.ga K "law") fd) (X : Fx K mg) (AA : ∀ j, j ≤ k → All P w K mg base j) (B : Tbs K base mg) : FnOk P w K mg base (L2.CX P w) (k + 1) (He.ga K "law") fd ["script"] (spOf K (T K) Lib (k + 1) 360) := by
  have A := AA k (Nat.le_refl k)
  refine fn_ok Fd sc_law (d := f_law_v24) rfl rfl rfl fun cdv Ar outer s H E hr => ?_
  have nd := sc_law.nd
  show GSs _ _ _ _ (b_law_v24 (callN Lib k))
  exact (gss_cons (gs_set (ps_set (i := 1) nd rfl (by first | exact Or.inl rfl | exact Or.inr rfl) (ge_fn A.o_law_hand hr (takes_of rfl rfl rfl rfl) (by rfl) (ga_cons (ge_var 0 (pv 0)) ga_nil)))) (gss_cons (gs_if (GW.gt (gw_or (gt_not (gt_val (ge_fn0 A.o_law_known_right hr (takes_of rfl rfl rfl rfl) (by rfl)))) (gw_or1 (gt_not (gt_val (ge_fn A.o_law_refused_right hr (takes_of rfl rfl rfl rfl) (by rfl) (ga_cons (ge_var 1 (pv 1)) ga_nil))))))) (gss_one (gs_ret ge_bl)) gss_nil) (gss_cons (gs_for (passes_of rfl) rfl (gi_rng1 (by rfl) X.b_range (ga_cons ge_int ga_nil)) (gp_name (pg_name (i := 2) nd rfl (by first | exact Or.inl rfl | exact Or.inr rfl))) (gss_cons (gs_set (ps_set (i := 3) nd rfl (by first | exact Or.inl rfl | exact Or.inr rfl) (ge_fn A.o_law_drawn_step hr (takes_of rfl rfl rfl rfl) (by rfl) (ga_cons (ge_var 1 (pv 1)) ga_nil)))) (gss_cons (gs_set (ps_set (i := 4) nd rfl (by first | exact Or.inl rfl | exact Or.inr rfl) (ge_fn A.o_law_any hr (takes_of rfl rfl rfl rfl) (by rfl) (ga_cons (ge_var 1 (pv 1)) (ga_cons (ge_lst (ga_cons ge_int (ga_cons ge_int (ga_cons ge_int (ga_cons (ge_blt (call_min2 rfl) ok_min2 (by rfl) X.b_min bt_min (ga_cons ge_int (ga_cons (ge_ix ix_seq ok_ix (ge_var 3 (pv 3)) ge_int (fun _ _ => rfl)) ga_nil))) (ga_cons (ge_blt (call_min2 rfl) ok_min2 (by rfl) X.b_min bt_min (ga_cons ge_int (ga_cons (ge_op or_add ok_add (ge_ix ix_seq ok_ix (ge_var 3 (pv 3)) ge_int (fun _ _ => rfl)) ge_int) ga_nil))) (ga_cons (ge_blt (call_max2 rfl) ok_max2 (by rfl) X.b_max bt_max (ga_cons ge_int (ga_cons (ge_blt (call_min2 rfl) ok_min2 (by rfl) X.b_min bt_min (ga_cons ge_int (ga_cons (ge_op op_sub ok_sub (ge_ix ix_seq ok_ix (ge_var 3 (pv 3)) ge_int (fun _ _ => rfl)) ge_int) ga_nil))) ga_nil))) ga_nil))))))) ga_nil))))) (gss_one (gs_for (passes_of rfl) rfl (gi_seq (ge_tup (k := 3) rfl (by decide) (ga_cons (ge_var 4 (pv 4)) (ga_cons (ge_op or_add ok_add ge_int (ge_fn A.o_law_draw hr (takes_of rfl rfl rfl rfl) (by rfl) (ga_cons (ge_var 1 (pv 1)) (ga_cons ge_int ga_nil)))) (ga_cons (ge_op or_add ok_add ge_int (ge_fn A.o_law_draw hr (takes_of rfl rfl rfl rfl) (by rfl) (ga_cons (ge_var 1 (pv 1)) (ga_cons ge_int ga_nil)))) ga_nil))) rfl)) (gp_name (pg_name (i := 5) nd rfl (by first | exact Or.inl rfl | exact Or.inr rfl))) (gss_one (gs_if (gt_not (gt_val (ge_fn A.o_law_told_right hr (takes_of rfl rfl rfl rfl) (by rfl) (ga_cons (ge_var 3 (pv 3)) (ga_cons (ge_var 5 (pv 5)) ga_nil))))) (gss_one (gs_ret ge_bl)) gss_nil))))))) (gss_cons (gs_for (passes_of rfl) rfl (gi_rng1 (by rfl) X.b_range (ga_cons ge_int ga_nil)) (gp_name (pg_name (i := 2) nd rfl (by first | exact Or.inl rfl | exact Or.inr rfl))) (gss_one (gs_if (gt_not (gt_val (ge_fn A.o_law_rows_right hr (takes_of rfl rfl rfl rfl) (by rfl) (ga_cons (ge_fn A.o_law_step hr (takes_of rfl rfl rfl rfl) (by rfl) (ga_cons (ge_var 1 (pv 1)) (ga_cons ge_int ga_nil))) (ga_cons (ge_op or_add ok_add ge_int (ge_fn A.o_law_draw hr (takes_of rfl rfl rfl rfl) (by rfl) (ga_cons (ge_var 1 (pv 1)) (ga_cons ge_int ga_nil)))) ga_nil))))) (gss_one (gs_ret ge_bl)) gss_nil))) (gss_one (gs_ret ge_bl))))))
theorem st_law (X : Fx K mg) (AA : ∀ j, j ≤ k → All P w K mg base j) (B : Tbs K base mg) : FnO P w K mg base (T K) Lib (k + 1) 360 "law" (He.ga K "law") ["script"] :=
  (bn_law X).elim fun fd z => ⟨X.g_law, z.2.kp, fd, z.1, ok_law z.2 X AA B⟩
theorem all_zero (X : Fx K mg) : All P w K mg base 0 where
  o_is_integer := (bn_is_integer X).elim fun fd z => ⟨X.g_is_integer, z.2.kp, fd, z.1, fn_zero⟩
  o_is_within := (bn_is_within X).elim fun fd z => ⟨X.g_is_within, z.2.kp, fd, z.1, fn_zero⟩
  o_is_tuple_of := (bn_is_tuple_of X).elim fun fd z => ⟨X.g_is_tuple_of, z.2.kp, fd, z.1, fn_zero⟩
  o_common := (bn_common X).elim fun fd z => ⟨X.g_common, z.2.kp, fd, z.1, fn_zero⟩
  o_is_fraction := (bn_is_fraction X).elim fun fd z => ⟨X.g_is_fraction, z.2.kp, fd, z.1, fn_zero⟩
  o_frac := (bn_frac X).elim fun fd z => ⟨X.g_frac, z.2.kp, fd, z.1, fn_zero⟩
  o_less := (bn_less X).elim fun fd z => ⟨X.g_less, z.2.kp, fd, z.1, fn_zero⟩
  o_is_line := (bn_is_line X).elim fun fd z => ⟨X.g_is_line, z.2.kp, fd, z.1, fn_zero⟩
  o_is_rule := (bn_is_rule X).elim fun fd z => ⟨X.g_is_rule, z.2.kp, fd, z.1, fn_zero⟩
  o_check_rule := (bn_check_rule X).elim fun fd z => ⟨X.g_check_rule, z.2.kp, fd, z.1, fn_zero⟩
  o_total_to := (bn_total_to X).elim fun fd z => ⟨X.g_total_to, z.2.kp, fd, z.1, fn_zero⟩
  o_row_of := (bn_row_of X).elim fun fd z => ⟨X.g_row_of, z.2.kp, fd, z.1, fn_zero⟩
  o_made := (bn_made X).elim fun fd z => ⟨X.g_made, z.2.kp, fd, z.1, fn_zero⟩
  o_check_marks := (bn_check_marks X).elim fun fd z => ⟨X.g_check_marks, z.2.kp, fd, z.1, fn_zero⟩
  o_places := (bn_places X).elim fun fd z => ⟨X.g_places, z.2.kp, fd, z.1, fn_zero⟩
  o_marks := (bn_marks X).elim fun fd z => ⟨X.g_marks, z.2.kp, fd, z.1, fn_zero⟩
  o_arcs := (bn_arcs X).elim fun fd z => ⟨X.g_arcs, z.2.kp, fd, z.1, fn_zero⟩
  o_law_hand := (bn_law_hand X).elim fun fd z => ⟨X.g_law_hand, z.2.kp, fd, z.1, fn_zero⟩
  o_law_draw := (bn_law_draw X).elim fun fd z => ⟨X.g_law_draw, z.2.kp, fd, z.1, fn_zero⟩
  o_law_any := (bn_law_any X).elim fun fd z => ⟨X.g_law_any, z.2.kp, fd, z.1, fn_zero⟩
  o_law_is := (bn_law_is X).elim fun fd z => ⟨X.g_law_is, z.2.kp, fd, z.1, fn_zero⟩
  o_law_gcd := (bn_law_gcd X).elim fun fd z => ⟨X.g_law_gcd, z.2.kp, fd, z.1, fn_zero⟩
  o_law_frac := (bn_law_frac X).elim fun fd z => ⟨X.g_law_frac, z.2.kp, fd, z.1, fn_zero⟩
  o_law_until := (bn_law_until X).elim fun fd z => ⟨X.g_law_until, z.2.kp, fd, z.1, fn_zero⟩
  o_law_by := (bn_law_by X).elim fun fd z => ⟨X.g_law_by, z.2.kp, fd, z.1, fn_zero⟩
  o_law_step := (bn_law_step X).elim fun fd z => ⟨X.g_law_step, z.2.kp, fd, z.1, fn_zero⟩
  o_law_spots := (bn_law_spots X).elim fun fd z => ⟨X.g_law_spots, z.2.kp, fd, z.1, fn_zero⟩
  o_law_far := (bn_law_far X).elim fun fd z => ⟨X.g_law_far, z.2.kp, fd, z.1, fn_zero⟩
  o_law_told_right := (bn_law_told_right X).elim fun fd z => ⟨X.g_law_told_right, z.2.kp, fd, z.1, fn_zero⟩
  o_law_rows_right := (bn_law_rows_right X).elim fun fd z => ⟨X.g_law_rows_right, z.2.kp, fd, z.1, fn_zero⟩
  o_law_drawn_step := (bn_law_drawn_step X).elim fun fd z => ⟨X.g_law_drawn_step, z.2.kp, fd, z.1, fn_zero⟩
  o_law_refused_right := (bn_law_refused_right X).elim fun fd z => ⟨X.g_law_refused_right, z.2.kp, fd, z.1, fn_zero⟩
  o_law_known_right := (bn_law_known_right X).elim fun fd z => ⟨X.g_law_known_right, z.2.kp, fd, z.1, fn_zero⟩
  o_law := (bn_law X).elim fun fd z => ⟨X.g_law, z.2.kp, fd, z.1, fn_zero⟩
theorem all_succ (X : Fx K mg) (AA : ∀ j, j ≤ k → All P w K mg base j) (B : Tbs K base mg) : All P w K mg base (k + 1) where
  o_is_integer := st_is_integer X AA B
  o_is_within := st_is_within X AA B
  o_is_tuple_of := st_is_tuple_of X AA B
  o_common := st_common X AA B
  o_is_fraction := st_is_fraction X AA B
  o_frac := st_frac X AA B
  o_less := st_less X AA B
  o_is_line := st_is_line X AA B
  o_is_rule := st_is_rule X AA B
  o_check_rule := st_check_rule X AA B
  o_total_to := st_total_to X AA B
  o_row_of := st_row_of X AA B
  o_made := st_made X AA B
  o_check_marks := st_check_marks X AA B
  o_places := st_places X AA B
  o_marks := st_marks X AA B
  o_arcs := st_arcs X AA B
  o_law_hand := st_law_hand X AA B
  o_law_draw := st_law_draw X AA B
  o_law_any := st_law_any X AA B
  o_law_is := st_law_is X AA B
  o_law_gcd := st_law_gcd X AA B
  o_law_frac := st_law_frac X AA B
  o_law_until := st_law_until X AA B
  o_law_by := st_law_by X AA B
  o_law_step := st_law_step X AA B
  o_law_spots := st_law_spots X AA B
  o_law_far := st_law_far X AA B
  o_law_told_right := st_law_told_right X AA B
  o_law_rows_right := st_law_rows_right X AA B
  o_law_drawn_step := st_law_drawn_step X AA B
  o_law_refused_right := st_law_refused_right X AA B
  o_law_known_right := st_law_known_right X AA B
  o_law := st_law X AA B
theorem all (X : Fx K mg) (B : Tbs K base mg) : ∀ n j, j ≤ n → All P w K mg base j
  | 0, 0, _ => all_zero X
  | _ + 1, 0, _ => all_zero X
  | n + 1, j + 1, h => all_succ X (fun i hi => all X B n i (by omega)) B
end
theorem tbs_of {K : PySem.W.Frag} {base : Heap} {mg : Str → Option Value} (h : ∀ p ∈ tf.map (He.cT K), LamX.TabB base mg p.1 p.2) : Tbs K base mg where
  mk0 := trivial
  tb_law_refused_right := h _ (.head _)
theorem tabs_to (K : PySem.W.Frag) (Q : Addr → Prop) (h : ∀ p ∈ tf.map (He.cT K), Q p.2) : ∀ p ∈ tabs K, Q p.1 := by
  have e : (tabs K).map (·.1) = (tf.map (He.cT K)).map (·.2) := rfl
  intro p hp
  have h2 : p.1 ∈ (tf.map (He.cT K)).map (·.2) := by rw [← e]; exact List.mem_map.mpr ⟨p, hp, rfl⟩
  obtain ⟨q, hq, e2⟩ := List.mem_map.mp h2
  rw [← e2]
  exact h q hq
end HD
open PySem PySem.W PySem.Calls PyProof.Rows
set_option maxRecDepth 100000 in
set_option maxHeartbeats 8000000 in
theorem PySem.Challenge.cw_evenduties_k23_whole_marks_and_arcs_holds : PySem.Challenge.rw_evenduties_k23_whole_marks_and_arcs.Holds := by
  w_on; o_law
  refine HandSHeadRun.head_any (r := OpenLaw.row PySem.Challenge.rw_evenduties_k23_whole_marks_and_arcs) (q := view (OpenLaw.row PySem.Challenge.rw_evenduties_k23_whole_marks_and_arcs).prog [51]) (H := HD.hk) (ob := HD.ob) (M := 4000) (loose := HD.loose) (d := HandSHeadRun.topDef (OpenLaw.row PySem.Challenge.rw_evenduties_k23_whole_marks_and_arcs).prog 51) (kwd := []) HD.ob_eq
    (by kernel_rfl) (fun s => by kernel_rfl) HD.run (by kernel_rfl) (by kernel_rfl) (by kernel_rfl) (by rfl) (by first | assumption | decide +kernel) (by decide +kernel) ⟨rfl, rfl, rfl, rfl, rfl, by decide +kernel⟩ ?hw ?hc
  case hw => w_witness2
  case hc =>
    refine LamX.walk_ofTsE (l := PySem.Challenge.rw_evenduties_k23_whole_marks_and_arcs) (n := 63) (k := 100) (x := "script") (CX := fun _ => Q.CXe (PySem.Challenge.rw_evenduties_k23_whole_marks_and_arcs).prog) rfl (by decide) (by kernel_rfl) ⟨rfl, by decide, by decide⟩ ?F (fun _ => Q.CXe.none)
    intro w mg fa h Y G hmg0
    obtain ⟨K, KX, sx⟩ := Y
    have hmg : mg ("law" : PySem.Str) = some (.ref fa) := by
      have e : (HandSHeadRun.topDef (OpenLaw.row PySem.Challenge.rw_evenduties_k23_whole_marks_and_arcs).prog 51).name = ("law" : PySem.Str) := by kernel_rfl
      rw [← e]
      exact hmg0
    have X := HD.facts KX G sx.t.d sx.more
    have ea : He.ga K "law" = fa := by
      have z := X.g_law.symm.trans hmg
      cases z
      rfl
    subst ea
    obtain ⟨fd, hb, Fd⟩ := HD.bn_law X
    have b1 := L2.FunD.bindsA (ps := ["script"]) Fd fun _ _ _ _ _ _ us hl => match us, hl with | [_], _ => rfl
    refine ⟨K, KX, fd, HD.tf.map (He.cT K), Q.spOf K (HD.T K) Q.Lib 100 360, ?_, ?_, ?_, fun s v => b1 s [v] rfl, fun H a ns hl _ hT hS => Q.start_ok hS (Q.law_k23 ns hl) (Q.tabs_of fun p hp => ?_), fun base hK hG hB => Q.FnOk.toEx (HD.ok_law Fd X (fun j hj => HD.all X ?_ 99 j hj) ?_)⟩
    · intro p hp
      obtain ⟨q, hq, rfl⟩ := List.mem_map.mp hp
      exact sx.empty q hq
    · intro p hp
      obtain ⟨q, hq, rfl⟩ := List.mem_map.mp hp
      exact sx.out q hq
    · intro p hp
      obtain ⟨q, hq, rfl⟩ := List.mem_map.mp hp
      exact PySem.W.codeHd_of_K KX (sx.hd q hq)
    · exact HD.tabs_to K (fun a => H a = some (.tbl #[])) hT p hp
    all_goals exact HD.tbs_of hB
