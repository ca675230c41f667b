import PyProof.Rows.All
import Wide.All
import OpenK.AllK
import Wide.FinOn
import HandS.ForMost
import HandS.ForExc
import HandS.Flow
import HandS.FStr
import HandS.IsInst
import HandS.Defaults
import HandS.MakeKw
import HandS.ClsMeth
import HandS.Property
import HandS.TupAny
import HandS.Style
import HandS.Zip
import HandS.SortKw
import HandS.StrMore
import HandS.RaiseMore
import HandS.WideBits
import HandS.HeadNt
import HandS.HeadHook4
import HandS.Head2
import HandS.HeadEnd
import HandS.NoneIn
import HandS.Deep
import HandS.ExcInit
import HandS.ExcIs
import HandS.ExcField
import HandS.Lambda
import HandS.TryMany
import HandS.RaiseFrom
import HandS.SuiteRaise
import KE.KExcSuper
import KE.KSuper
import KE.KExcInit
import KE.KExcIs
import HandS.OwnEq
import KE.KFmtOwn
import KE.KCallOwn
import HandS.Small
import KE.GoesMore
import HandS.HeadWalk
import HandS.ExcValue
import HandS.ExcOwn
import KE.KTryMore
import HandS.EndTab
import PySem.Challenge.RW_offerlists_k04_house_texts_read
set_option Elab.async false
set_option linter.all false
set_option maxRecDepth 100000
/-! ## pure values, store, results, combinators -/
namespace OL
open PySem PyProof.Rows

/-- a pure value: tuples, lists that nobody changes (lv), the script (fl), frozen instances (iv) and dicts (dv) are trees; obj n is a cell of the store -/
inductive PV where
  | non
  | bl (b : Bool)
  | int (i : Int)
  | str (s : Str)
  | ty (n : Nat)
  | cls (c : Nat)
  | fn (f : Nat)
  | tup (xs : List PV)
  | kt (xs : List PV)
  | lv (xs : List PV)
  | fl (xs : List PV)
  | iv (c : Nat) (ks : List Nat) (xs : List PV)
  | dv (ks xs : List PV)
  | xv (c : Nat) (ks : List Nat) (xs : List PV)
  | obj (n : Nat)

inductive Cell where
  | lst (xs : List PV)
  | ins (c : Nat) (ks : List Nat) (xs : List PV)
  | dct (ks : List L2.Key) (xs : List PV)
  | dtt (ks : List (List L2.Key)) (xs : List PV)
  | dead

/-- the built-in types that are named: int, bool, str, tuple, list, dict, NoneType -/
def tyN : Nat → String
  | 0 => "int"
  | 1 => "bool"
  | 2 => "str"
  | 3 => "tuple"
  | 4 => "list"
  | 5 => "dict"
  | 6 => "NoneType"
  | 7 => "ValueError"
  | 8 => "LookupError"
  | _ => "ArithmeticError"
abbrev Sto := List Cell
abbrev LEnv := List (Option PV)

inductive Res (α : Type) where
  | ok (a : α) (st : Sto)
  | exc (c : Nat) (ks : List Nat) (xs : List PV) (st : Sto)
  | bad

def Res.bnd {α β : Type} (r : Res α) (f : α → Sto → Res β) : Res β :=
  match r with
  | .ok a st => f a st
  | .exc c ks xs st => .exc c ks xs st
  | .bad => .bad

abbrev CallT := Nat → List PV → Sto → Res PV
abbrev D (α : Type) := CallT → LEnv → Sto → Res α

abbrev Op1 := PV → Sto → Res PV
abbrev Op2 := PV → PV → Sto → Res PV
abbrev OpN := List PV → Sto → Res PV

/-! ### expressions -/
def dK (v : PV) : D PV := fun _ _ st => .ok v st
def dV (i : Nat) : D PV := fun _ e st => match e[i]? with
  | some (some v) => .ok v st
  | _ => .bad
def d1 (o : Op1) (a : D PV) : D PV := fun F e st => (a F e st).bnd o
def d2 (o : Op2) (a b : D PV) : D PV := fun F e st => (a F e st).bnd fun x s1 => (b F e s1).bnd fun y s2 => o x y s2
def dArgs : List (D PV) → D (List PV)
  | [] => fun _ _ st => .ok [] st
  | a :: r => fun F e st => (a F e st).bnd fun x s1 => (dArgs r F e s1).bnd fun xs s2 => .ok (x :: xs) s2
def dN (o : OpN) (as : List (D PV)) : D PV := fun F e st => (dArgs as F e st).bnd o
def dTup (as : List (D PV)) : D PV := fun F e st => (dArgs as F e st).bnd fun xs s => if xs.length ≤ 16777216 then .ok (.tup xs) s else .bad
/-- a new list: a cell, or a value that nobody changes -/
def newL (mt : Bool) (xs : List PV) (st : Sto) : Res PV := if mt then .ok (.obj st.length) (st ++ [.lst xs]) else .ok (.lv xs) st
def dLst (mt : Bool) (as : List (D PV)) : D PV := fun F e st => (dArgs as F e st).bnd fun xs s => if xs.length ≤ 16777216 then newL mt xs s else .bad
/-- a cell becomes a value that nobody changes any more -/
def oFrz : Op1
  | .obj n, st => match st[n]? with
    | some (.lst xs) => .ok (.lv xs) (st.set n .dead)
    | some (.ins c ks xs) => .ok (.iv c ks xs) (st.set n .dead)
    | _ => .bad
  | _, _ => .bad
/-- tests -/
def tIfE (t : D Bool) (a b : D PV) : D PV := fun F e st => (t F e st).bnd fun c s => if c then a F e s else b F e s
def tAndT (a b : D Bool) : D Bool := fun F e st => (a F e st).bnd fun c s => if c then b F e s else .ok false s
def tOrT (a b : D Bool) : D Bool := fun F e st => (a F e st).bnd fun c s => if c then .ok true s else b F e s
def tNotT (a : D Bool) : D Bool := fun F e st => (a F e st).bnd fun c s => .ok (!c) s
/-- the truth of a value -/
def truth (st : Sto) : PV → Option Bool
  | .non => some false
  | .bl b => some b
  | .int i => some (i != 0)
  | .str s => if s.length ≤ 16777216 then some ((s.length : Int) != 0) else none
  | .tup xs => some (!xs.isEmpty)
  | .kt xs => some (!xs.isEmpty)
  | .lv xs => some (!xs.isEmpty)
  | .fl xs => some (!xs.isEmpty)
  | .obj n => match st[n]? with
    | some (.lst xs) => some (!xs.isEmpty)
    | _ => none
  | _ => none
def tVal (a : D PV) : D Bool := fun F e st => (a F e st).bnd fun x s => match truth s x with
  | some b => .ok b s
  | none => .bad
/-- x and y, x or y, not x as values -/
def dAnd (a b : D PV) : D PV := fun F e st => (a F e st).bnd fun x s => match truth s x with
  | some true => b F e s
  | some false => .ok x s
  | none => .bad
def dOr (a b : D PV) : D PV := fun F e st => (a F e st).bnd fun x s => match truth s x with
  | some true => .ok x s
  | some false => b F e s
  | none => .bad
def dNot (a : D PV) : D PV := fun F e st => (a F e st).bnd fun x s => match truth s x with
  | some b => .ok (.bl (!b)) s
  | none => .bad
/-- a op b op' c -/
def dChain (o o' : Op2) (a b c : D PV) : D PV := fun F e st => (a F e st).bnd fun x s1 => (b F e s1).bnd fun y s2 => (o x y s2).bnd fun z s3 => match z with
  | .bl true => (c F e s3).bnd fun w s4 => o' y w s4
  | .bl false => .ok (.bl false) s3
  | _ => .bad

/-! ### operations on values -/
def small (i : Int) : Bool := decide (-(2 ^ 64) < i) && decide (i < 2 ^ 64)
def oAdd : Op2
  | .int i, .int j, st => .ok (.int (i + j)) st
  | .str a, .str b, st => if a.length + b.length ≤ 16777216 then .ok (.str (a ++ b)) st else .bad
  | .tup xs, .tup ys, st => if xs.length + ys.length ≤ 16777216 then .ok (.tup (xs ++ ys)) st else .bad
  | .lv xs, .lv ys, st => if xs.length + ys.length ≤ 16777216 then .ok (.lv (xs ++ ys)) st else .bad
  | .lv xs, .obj m, st => match st[m]? with
    | some (.lst ys) => if xs.length + ys.length ≤ 16777216 then .ok (.lv (xs ++ ys)) st else .bad
    | _ => .bad
  | .obj n, .lv ys, st => match st[n]? with
    | some (.lst xs) => if xs.length + ys.length ≤ 16777216 then .ok (.lv (xs ++ ys)) st else .bad
    | _ => .bad
  | .obj n, .obj m, st => match st[n]?, st[m]? with
    | some (.lst xs), some (.lst ys) => if xs.length + ys.length ≤ 16777216 then .ok (.lv (xs ++ ys)) st else .bad
    | _, _ => .bad
  | _, _, _ => .bad
/-- a + b of lists, the new list one that is changed -/
def listC (st : Sto) : PV → Option (List PV)
  | .lv xs => some xs
  | .obj n => match st[n]? with
    | some (.lst xs) => some xs
    | _ => none
  | _ => none
def oAddM : Op2 := fun x y st => match listC st x, listC st y with
  | some xs, some ys => if xs.length + ys.length ≤ 16777216 then newL true (xs ++ ys) st else .bad
  | _, _ => .bad
def oSub : Op2
  | .int i, .int j, st => .ok (.int (i - j)) st
  | _, _, _ => .bad
def oMul : Op2
  | .int i, .int j, st => if small i || small j then .ok (.int (i * j)) st else .bad
  | .lv xs, .int j, st => if -(2 ^ 63) ≤ j ∧ j < 2 ^ 63 ∧ xs.length * j.toNat ≤ 16777216 then .ok (.lv (List.replicate j.toNat xs).flatten) st else .bad
  | _, _, _ => .bad
def oFdiv : Op2
  | .int i, .int j, st => if 0 < j ∧ j < 1073741824 then .ok (.int (i / j)) st else .bad
  | _, _, _ => .bad
def oMod : Op2
  | .int i, .int j, st => if 0 < j then .ok (.int (i % j)) st else .bad
  | _, _, _ => .bad
def oPow : Op2
  | .int i, .int j, st => if 0 ≤ j ∧ j ≤ 1000000 ∧ i.natAbs < 2 ^ 64 then .ok (.int (i ^ j.toNat)) st else .bad
  | _, _, _ => .bad
def oNeg : Op1
  | .int i, st => .ok (.int (-i)) st
  | _, _ => .bad
/-- data at any depth -/
def mapO {α β : Type} (f : α → Option β) : List α → Option (List β)
  | [] => some []
  | x :: r => match f x, mapO f r with
    | some y, some ys => some (y :: ys)
    | _, _ => none
def deep (st : Sto) : Nat → PV → Option PyData
  | 0, _ => none
  | _ + 1, .non => some .none
  | _ + 1, .bl b => some (.bool b)
  | _ + 1, .int i => some (.int i)
  | _ + 1, .str s => some (.str s)
  | n + 1, .tup xs => (mapO (deep st n) xs).map .tuple
  | n + 1, .kt xs => (mapO (deep st n) xs).map .tuple
  | n + 1, .lv xs => (mapO (deep st n) xs).map .list
  | n + 1, .fl xs => (mapO (deep st n) xs).map .list
  | n + 1, .obj k => match st[k]? with
    | some (.lst xs) => (mapO (deep st n) xs).map .list
    | _ => none
  | _ + 1, _ => none
def scalar : PV → Bool
  | .non => true
  | .int _ => true
  | .str _ => true
  | .bl _ => true
  | _ => false
/-- equality of data, as Python has it -/
def eqData (st : Sto) (x y : PV) : Option Bool :=
  match x, y with
  | .non, .non => some true
  | .int i, .int j => some (decide (i = j))
  | .str a, .str b => some (decide (a = b))
  | .bl a, .bl b => some (decide (a = b))
  | .non, .int _ => some false
  | .int _, .non => some false
  | .non, .str _ => some false
  | .str _, .non => some false
  | .non, .bl _ => some false
  | .bl _, .non => some false
  | .int _, .str _ => some false
  | .str _, .int _ => some false
  | .bl _, .str _ => some false
  | .str _, .bl _ => some false
  | x, y => match deep st 64 x, deep st 64 y with
    | some d, some e => if SeqAt.shaped d && SeqAt.shaped e then some (PyData.eqv d e) else none
    | _, _ => none
def oEq : Op2 := fun x y st => match eqData st x y with
  | some b => .ok (.bl b) st
  | none => .bad
def oNe : Op2 := fun x y st => match eqData st x y with
  | some b => .ok (.bl (!b)) st
  | none => .bad
def oLt : Op2
  | .int i, .int j, st => .ok (.bl (decide (i < j))) st
  | .str a, .str b, st => .ok (.bl (decide (a.cps.toList < b.cps.toList))) st
  | _, _, _ => .bad
def oLe : Op2
  | .int i, .int j, st => .ok (.bl (decide (i ≤ j))) st
  | .str a, .str b, st => .ok (.bl (!decide (b.cps.toList < a.cps.toList))) st
  | _, _, _ => .bad
def oGt : Op2
  | .int i, .int j, st => .ok (.bl (decide (j < i))) st
  | .str a, .str b, st => .ok (.bl (decide (b.cps.toList < a.cps.toList))) st
  | _, _, _ => .bad
def oGe : Op2
  | .int i, .int j, st => .ok (.bl (decide (j ≤ i))) st
  | .str a, .str b, st => .ok (.bl (!decide (a.cps.toList < b.cps.toList))) st
  | _, _, _ => .bad
/-! ### items and slices -/
def cutL {α : Type} (xs : List α) (lo hi : Option Int) : List α := (xs.drop (HT.sIx xs.length 0 lo)).take (HT.sIx xs.length xs.length hi - HT.sIx xs.length 0 lo)
/-- what may be read as a list or a tuple -/
def seqOf (st : Sto) : PV → Option (List PV)
  | .tup xs => some xs
  | .kt xs => some xs
  | .lv xs => some xs
  | .fl xs => some xs
  | .obj n => match st[n]? with
    | some (.lst xs) => some xs
    | _ => none
  | _ => none
def listOf (st : Sto) : PV → Option (List PV)
  | .lv xs => some xs
  | .fl xs => some xs
  | .obj n => match st[n]? with
    | some (.lst xs) => some xs
    | _ => none
  | _ => none
def oIx : Op2
  | .str z, .int i, st => if z.length ≤ 16777216 then (match L2.atI z.cps.toList i with
    | some c => .ok (.str ⟨#[c]⟩) st
    | none => .bad) else .bad
  | x, .int i, st => match seqOf st x with
    | some xs => (match L2.atI xs i with
      | some v => .ok v st
      | none => .bad)
    | none => .bad
  | _, _, _ => .bad
def dPart : Option (D PV) → D (Option Int)
  | none => fun _ _ st => .ok none st
  | some a => fun F e st => (a F e st).bnd fun x s => match x with
    | .int i => .ok (some i) s
    | _ => .bad
def oCut (mt : Bool) (x : PV) (lo hi : Option Int) (st : Sto) : Res PV :=
  match x with
  | .str z => if z.length ≤ 16777216 then .ok (.str (L2.cutS z lo hi)) st else .bad
  | .tup xs => .ok (.tup (cutL xs lo hi)) st
  | x => match listOf st x with
    | some xs => newL mt (cutL xs lo hi) st
    | none => .bad
def dCut (mt : Bool) (a : D PV) (lo hi : Option (D PV)) : D PV := fun F e st => (a F e st).bnd fun x s1 => (dPart lo F e s1).bnd fun l s2 => (dPart hi F e s2).bnd fun h s3 => oCut mt x l h s3
/-! ### in -/
def flatP : PV → Bool
  | .non => true
  | .bl _ => true
  | .int _ => true
  | .str _ => true
  | _ => false
def eqP : PV → PV → Bool
  | .non, .non => true
  | .bl a, .bl b => a == b
  | .bl a, .int b => (if a then 1 else 0) == b
  | .int a, .bl b => a == (if b then 1 else 0)
  | .int a, .int b => a == b
  | .str a, .str b => a == b
  | _, _ => false
def isIn (st : Sto) (x y : PV) : Option Bool :=
  match x, y with
  | .str a, .str b => some (!(Builtin.Str.occurrences b a 0 b.length 1).isEmpty)
  | x, y => match seqOf st y with
    | some ys => if flatP x && ys.all flatP then some (ys.any fun z => eqP z x) else (match deep st 64 x, deep st 64 y with
      | some d, some (.list ds) => if SeqAt.shaped d && SeqAt.shaped (.list ds) then some (ds.any fun z => PyData.eqv z d) else none
      | _, _ => none)
    | none => none
def oIn : Op2 := fun x y st => match isIn st x y with
  | some b => .ok (.bl b) st
  | none => .bad
def oNotIn : Op2 := fun x y st => match isIn st x y with
  | some b => .ok (.bl (!b)) st
  | none => .bad
def oIs : Op2
  | x, .non, st => (match x with
    | .non => .ok (.bl true) st
    | _ => .ok (.bl false) st)
  | _, _, _ => .bad
def oIsNot : Op2
  | x, .non, st => (match x with
    | .non => .ok (.bl false) st
    | _ => .ok (.bl true) st)
  | _, _, _ => .bad
/-- an answer that is True or False, as a test -/
def tBl (a : D PV) : D Bool := fun F e st => (a F e st).bnd fun x s => match x with
  | .bl b => .ok b s
  | _ => .bad

/-! ### statements -/
inductive Fl where
  | nx (e : LEnv)
  | rt (v : PV)
  | bk (e : LEnv)
  | ct (e : LEnv)
  | ex (c : Nat) (ks : List Nat) (xs : List PV) (e : LEnv)
abbrev SD := CallT → LEnv → Sto → Res Fl
/-- an expression's answer, or its exception, within a statement -/
def Res.at {α : Type} (r : Res α) (e : LEnv) (f : α → Sto → Res Fl) : Res Fl :=
  match r with
  | .ok a st => f a st
  | .exc c ks xs st => .ok (.ex c ks xs e) st
  | .bad => .bad
/-- a target of an assignment -/
abbrev G := PV → CallT → LEnv → Sto → Res LEnv
def gNm (i : Nat) : G := fun v _ e st => .ok (e.set i (some v)) st
def gEach : List G → List PV → CallT → LEnv → Sto → Res LEnv
  | [], [], _, e, st => .ok e st
  | g :: gs, v :: vs, F, e, st => (g v F e st).bnd fun e1 s1 => gEach gs vs F e1 s1
  | _, _, _, _, _ => .bad
def gTp (gs : List G) : G := fun v F e st => match v with
  | .tup xs => if xs.length = gs.length then (match gEach gs xs F e st with
    | .ok a s => .ok a s
    | _ => .bad) else .bad
  | _ => .bad
/-- .. or a list that nobody changes -/
def gTq (gs : List G) : G := fun v F e st => match v with
  | .tup xs => if xs.length = gs.length then (match gEach gs xs F e st with
    | .ok a s => .ok a s
    | _ => .bad) else .bad
  | .lv xs => if xs.length = gs.length then (match gEach gs xs F e st with
    | .ok a s => .ok a s
    | _ => .bad) else .bad
  | _ => .bad
/-- o[i] = v -/
def oSet (o i v : PV) (st : Sto) : Res Unit :=
  match o, i with
  | .obj n, .int k => (match st[n]? with
    | some (.lst xs) => (match L2.ixN xs.length k with
      | some j => .ok () (st.set n (.lst (xs.set j v)))
      | none => .bad)
    | _ => .bad)
  | _, _ => .bad
def gSb (o i : D PV) : G := fun v F e st => (o F e st).bnd fun x s1 => (i F e s1).bnd fun y s2 => (oSet x y v s2).bnd fun _ s3 => .ok e s3
/-- o.f = v -/
def putA (k : Nat) (v : PV) : List Nat → List PV → Option (List Nat × List PV)
  | [], [] => some ([k], [v])
  | j :: ks, x :: xs => if j = k then some (j :: ks, v :: xs) else (match putA k v ks xs with
    | some (ks', xs') => some (j :: ks', x :: xs')
    | none => none)
  | _, _ => none
def getA (k : Nat) : List Nat → List PV → Option PV
  | j :: ks, x :: xs => if j = k then some x else getA k ks xs
  | _, _ => none
def oSetA (o : PV) (k : Nat) (v : PV) (st : Sto) : Res Unit :=
  match o with
  | .obj n => (match st[n]? with
    | some (.ins c ks xs) => (match putA k v ks xs with
      | some (ks', xs') => if ks.length < 1000 then .ok () (st.set n (.ins c ks' xs')) else .bad
      | none => .bad)
    | _ => .bad)
  | _ => .bad
/-- e.f of an instance -/
def oGetA (k : Nat) : Op1 := fun o st => match o with
  | .iv _ ks xs => (match getA k ks xs with
    | some v => .ok v st
    | none => .bad)
  | .obj n => (match st[n]? with
    | some (.ins _ ks xs) => (match getA k ks xs with
      | some v => .ok v st
      | none => .bad)
    | _ => .bad)
  | _ => .bad
def sNil : SD := fun _ e st => .ok (.nx e) st
def sSeq (a b : SD) : SD := fun F e st => match a F e st with
  | .ok (.nx e1) s1 => b F e1 s1
  | r => r
def sBrk : SD := fun _ e st => .ok (.bk e) st
def sCnt : SD := fun _ e st => .ok (.ct e) st
def sNever : SD := fun _ _ _ => .bad
def sEx (a : D PV) : SD := fun F e st => (a F e st).at e fun _ s => .ok (.nx e) s
def sRet (a : D PV) : SD := fun F e st => (a F e st).at e fun v s => .ok (.rt v) s
def sRetN : SD := fun _ _ st => .ok (.rt .non) st
def sIf (t : D Bool) (a b : SD) : SD := fun F e st => (t F e st).at e fun c s => if c then a F e s else b F e s
def sAsg (a : D PV) (g : G) : SD := fun F e st => (a F e st).at e fun v s => (g v F e s).at e fun e1 s1 => .ok (.nx e1) s1
/-- a, b = x, y stored one by one without a tuple -/
def sPar (i j : Nat) (a b : D PV) : SD := fun F e st => (a F e st).at e fun v s => (b F e s).at e fun w s1 => .ok (.nx ((e.set i (some v)).set j (some w))) s1
def sPar3 (i j l : Nat) (a b c : D PV) : SD := fun F e st => (a F e st).at e fun v s => (b F e s).at e fun w s1 => (c F e s1).at e fun z s2 => .ok (.nx (((e.set i (some v)).set j (some w)).set l (some z))) s2
/-- o.f = a: the value first -/
def sSetA (o : D PV) (k : Nat) (a : D PV) : SD := fun F e st => (a F e st).at e fun v s => (o F e s).at e fun x s1 => (oSetA x k v s1).at e fun _ s2 => .ok (.nx e) s2
/-- x op= a -/
def sAug (i : Nat) (o : Op2) (a : D PV) : SD := fun F e st => (dV i F e st).at e fun x s0 => (a F e s0).at e fun v s => (o x v s).at e fun z s1 => .ok (.nx (e.set i (some z))) s1
/-- what a for walks -/
inductive Src where
  | seq (ys : List PV)
  | cell (n : Nat) (k : Nat)
def srcOf (st : Sto) : PV → Option Src
  | .tup xs => some (.seq xs)
  | .kt xs => some (.seq xs)
  | .lv xs => some (.seq xs)
  | .fl xs => some (.seq xs)
  | .str z => some (.seq (z.cps.toList.map fun c => .str ⟨#[c]⟩))
  | .obj n => match st[n]? with
    | some (.lst xs) => some (.cell n xs.length)
    | _ => none
  | _ => none
def dSrc (a : D PV) : D Src := fun F e st => (a F e st).bnd fun x s => match srcOf s x with
  | some y => .ok y s
  | none => .bad
def intsFrom (lo : Int) (n : Nat) : List PV := (List.range n).map fun k => .int (lo + (k : Nat))
def dRng1 (a : D PV) : D Src := fun F e st => (a F e st).bnd fun x s => match x with
  | .int n => if -(2 ^ 62) ≤ n ∧ n < 2 ^ 62 then .ok (.seq (intsFrom 0 n.toNat)) s else .bad
  | _ => .bad
def dRng2 (a b : D PV) : D Src := fun F e st => (a F e st).bnd fun x s => (b F e s).bnd fun y s1 => match x, y with
  | .int lo, .int hi => if -(2 ^ 62) ≤ lo ∧ lo < 2 ^ 62 ∧ -(2 ^ 62) ≤ hi ∧ hi < 2 ^ 62 then .ok (.seq (intsFrom lo (hi - lo).toNat)) s1 else .bad
  | _, _ => .bad
/-- the turns -/
def forSeq (g : G) (b : SD) : List PV → SD
  | [] => sNil
  | y :: ys => fun F e st => (g y F e st).at e fun e1 s1 => match b F e1 s1 with
    | .ok (.nx e2) s2 => forSeq g b ys F e2 s2
    | .ok (.ct e2) s2 => forSeq g b ys F e2 s2
    | .ok (.bk e2) s2 => .ok (.nx e2) s2
    | r => r
def forCell (g : G) (b : SD) (n : Nat) : Nat → Nat → SD
  | 0, i => fun _ e st => match st[n]? with
    | some (.lst xs) => if xs.length ≤ i then .ok (.nx e) st else .bad
    | _ => .bad
  | k + 1, i => fun F e st => match st[n]? with
    | some (.lst xs) => (match xs[i]? with
      | none => .ok (.nx e) st
      | some y => (g y F e st).at e fun e1 s1 => match b F e1 s1 with
        | .ok (.nx e2) s2 => forCell g b n k (i + 1) F e2 s2
        | .ok (.ct e2) s2 => forCell g b n k (i + 1) F e2 s2
        | .ok (.bk e2) s2 => .ok (.nx e2) s2
        | r => r)
    | _ => .bad
def sFor (m : D Src) (g : G) (b : SD) : SD := fun F e st => (m F e st).at e fun y s => match y with
  | .seq ys => forSeq g b ys F e s
  | .cell n k => forCell g b n k 0 F e s
def whileN (t : D Bool) (b : SD) : Nat → SD
  | 0 => fun _ _ _ => .bad
  | k + 1 => fun F e st => (t F e st).at e fun c s => if c then (match b F e s with
    | .ok (.nx e2) s2 => whileN t b k F e2 s2
    | .ok (.ct e2) s2 => whileN t b k F e2 s2
    | .ok (.bk e2) s2 => .ok (.nx e2) s2
    | r => r) else .ok (.nx e) s
def sWhile (t : D Bool) (b : SD) : SD := whileN t b 1000000
/-! ### comprehensions -/
/-- the items of a comprehension over a pure row; vs: the slots of its own names -/
def wipeE (e : LEnv) : List Nat → LEnv
  | [] => e
  | v :: vs => (wipeE e vs).set v none
def noX {α : Type} (r : Res α) : Res α := match r with
  | .ok a s => .ok a s
  | _ => .bad
def compSeq (g : G) (t : D Bool) (m : D PV) : List PV → D (List PV)
  | [] => fun _ _ st => .ok [] st
  | y :: ys => fun F e st => (noX (g y F e st)).bnd fun e1 s1 => (noX (t F e1 s1)).bnd fun c s2 =>
    if c then (noX (m F e1 s2)).bnd fun z s3 => (compSeq g t m ys F e s3).bnd fun zs s4 => .ok (z :: zs) s4
    else compSeq g t m ys F e s2
def compCell (g : G) (t : D Bool) (m : D PV) (n : Nat) : Nat → Nat → D (List PV)
  | 0, i => fun _ _ st => match st[n]? with
    | some (.lst xs) => if xs.length ≤ i then .ok [] st else .bad
    | _ => .bad
  | k + 1, i => fun F e st => match st[n]? with
    | some (.lst xs) => (match xs[i]? with
      | none => .ok [] st
      | some y => (noX (g y F e st)).bnd fun e1 s1 => (noX (t F e1 s1)).bnd fun c s2 =>
        if c then (noX (m F e1 s2)).bnd fun z s3 => (compCell g t m n k (i + 1) F e s3).bnd fun zs s4 => .ok (z :: zs) s4
        else compCell g t m n k (i + 1) F e s2)
    | _ => .bad
/-- a comprehension's target: a name, or a tuple of names -/
inductive CTg where
  | nm (i : Nat)
  | tp (is : List Nat)
def cG : CTg → G
  | .nm i => gNm i
  | .tp is => gTp (is.map gNm)
def dComp (mt : Bool) (src : D Src) (vs : List Nat) (c : CTg) (t : D Bool) (m : D PV) : D PV := fun F e st => (src F e st).bnd fun y s =>
  (match y with
    | .seq ys => compSeq (cG c) t m ys F (wipeE e vs) s
    | .cell n k => compCell (cG c) t m n k 0 F (wipeE e vs) s).bnd fun zs s1 => if zs.length ≤ 16777216 then newL mt zs s1 else .bad
def tYesT : D Bool := fun _ _ st => .ok true st
/-! ### calls -/
def dCall (j : Nat) (as : List (D PV)) : D PV := fun F e st => (dArgs as F e st).bnd fun xs s => F j xs s
/-- where a parameter's value comes from: an argument, a default -/
inductive Sel where
  | a (i : Nat)
  | d (v : PV)
def pick (xs : List PV) : List Sel → Option (List PV)
  | [] => some []
  | .a i :: r => match xs[i]?, pick xs r with
    | some x, some ys => some (x :: ys)
    | _, _ => none
  | .d v :: r => match pick xs r with
    | some ys => some (v :: ys)
    | none => none
def dCallK (j : Nat) (as : List (D PV)) (sel : List Sel) : D PV := fun F e st => (dArgs as F e st).bnd fun xs s => match pick xs sel with
  | some ys => F j ys s
  | none => .bad
/-- what is known of the classes at run time -/
structure Tb where
  mt : Nat → Nat → Option Nat
  fl : Nat → Nat → Bool
  pr : Nat → Nat → Option Nat
  isa : Nat → Nat → Bool
/-- the class of an instance -/
def clsOf (st : Sto) : PV → Option Nat
  | .iv c _ _ => some c
  | .obj n => match st[n]? with
    | some (.ins c _ _) => some c
    | _ => none
  | _ => none
def dMeth (b : Tb) (m : Nat) (o : D PV) (as : List (D PV)) : D PV := fun F e st => (o F e st).bnd fun x s => match clsOf s x with
  | some c => (match b.mt c m with
    | some j => (dArgs as F e s).bnd fun xs s1 => F j (x :: xs) s1
    | none => .bad)
  | none => .bad
/-- a field of an exception -/
def attX (b : Tb) (k : Nat) : PV → Option (Option PV)
  | .xv c ks xs => some (if b.isa c k then getA k ks xs else none)
  | _ => none
def dAttr (b : Tb) (k : Nat) (o : D PV) : D PV := fun F e st => (o F e st).bnd fun x s => match attX b k x with
  | some (some v) => .ok v s
  | some none => .bad
  | none => (match clsOf s x with
    | some c => if b.fl c k then oGetA k x s else (match b.pr c k with
      | some j => F j [x] s
      | none => .bad)
    | none => .bad)
/-- C(..), C a class of exceptions: its __init__ keeps the arguments as fields -/
def mkX (c : Nat) (ks : List Nat) (ys : List PV) : PV := .xv c ks ys.reverse
def dXNew (c : Nat) (ks : List Nat) (as : List (D PV)) (sel : List Sel) : D PV := fun F e st => (dArgs as F e st).bnd fun xs s => match pick xs sel with
  | some ys => if ys.length = ks.length then .ok (mkX c ks ys) s else .bad
  | none => .bad
/-- raise C(..) -/
def sRaise (m : D PV) : SD := fun F e st => (m F e st).at e fun x s => match x with
  | .xv c ks xs => .ok (.ex c ks xs e) s
  | _ => .bad
def dXNew0 (c : Nat) : D PV := fun _ _ st => .ok (.xv c [] []) st
def sSetAt (b : Tb) (o : D PV) (k : Nat) (a : D PV) : SD := fun F e st => (a F e st).at e fun v s => (o F e s).at e fun x s1 => match clsOf s1 x with
  | some c => if b.fl c k then (oSetA x k v s1).at e fun _ s2 => .ok (.nx e) s2 else .bad
  | none => .bad
/-- a new instance: a cell, __init__, then (if nobody changes it) a value -/
def mkIns (mt : Bool) (c j : Nat) (F : CallT) (xs : List PV) (st : Sto) : Res PV :=
  (F j (.obj st.length :: xs) (st ++ [.ins c [] []])).bnd fun r s => match r with
    | .non => if mt then .ok (.obj st.length) s else oFrz (.obj st.length) s
    | _ => .bad
def dNew (mt : Bool) (c j : Nat) (as : List (D PV)) : D PV := fun F e st => (dArgs as F e st).bnd fun xs s => mkIns mt c j F xs s
def dNewK (mt : Bool) (c j : Nat) (as : List (D PV)) (sel : List Sel) : D PV := fun F e st => (dArgs as F e st).bnd fun xs s => match pick xs sel with
  | some ys => mkIns mt c j F ys s
  | none => .bad
/-- a += b: ints, texts, a list that grows -/
def oInt : Op2
  | .int i, .int j, st => .ok (.int (i + j)) st
  | _, _, _ => .bad
def oIAdd : Op2
  | .int i, .int j, st => .ok (.int (i + j)) st
  | .str a, .str b, st => if a.length + b.length ≤ 16777216 then .ok (.str (a ++ b)) st else .bad
  | _, _, _ => .bad
/-- o.f op= a, o.f a field that stays while a is made -/
def sAugA (b : Tb) (o : D PV) (k : Nat) (op : Op2) (a : D PV) : SD := fun F e st => (o F e st).at e fun x s => match clsOf s x with
  | some c => if b.fl c k then (oGetA k x s).at e fun u s1 => (a F e s1).at e fun v s2 => (op u v s2).at e fun z s3 => if clsOf s3 x = some c then (oSetA x k z s3).at e fun _ s4 => .ok (.nx e) s4 else .bad else .bad
  | none => .bad
/-- try .. except: the body raises nothing -/
def sTry (a b : SD) : SD := fun F e st => match a F e st with
  | .ok (.nx e1) s1 => b F e1 s1
  | .ok (.ex _ _ _ _) _ => .bad
  | r => r
/-! ### built-in functions -/
inductive Ty where
  | b (n : Nat)
  | c (n : Nat)
  | x (n : Nat)
def tyOf (st : Sto) : PV → Option Ty
  | .non => some (.b 6)
  | .bl _ => some (.b 1)
  | .int _ => some (.b 0)
  | .str _ => some (.b 2)
  | .tup _ => some (.b 3)
  | .kt _ => some (.b 3)
  | .lv _ => some (.b 4)
  | .fl _ => some (.b 4)
  | .dv _ _ => some (.b 5)
  | .iv c _ _ => some (.c c)
  | .xv c _ _ => some (.x c)
  | .obj n => match st[n]? with
    | some (.lst _) => some (.b 4)
    | some (.ins c _ _) => some (.c c)
    | some (.dct _ _) => some (.b 5)
    | some (.dtt _ _) => some (.b 5)
    | _ => none
  | _ => none
def isiP (isa : Nat → Nat → Option Bool) (xi : Nat → Bool → Nat → Option Bool) : Ty → PV → Option Bool
  | .b n, .ty m => if n < 7 ∧ m < 7 then some (n == m || (n == 1 && m == 0)) else none
  | .b _, .cls c => (isa c c).map fun _ => false
  | .c c, .ty m => if m < 6 then (isa c c).map fun _ => false else none
  | .c c, .cls d => isa c d
  | .x c, .ty m => xi c true m
  | .x c, .cls d => xi c false d
  | _, _ => none
def bIsi (isa : Nat → Nat → Option Bool) (xi : Nat → Bool → Nat → Option Bool) : OpN
  | [x, c], st => (match tyOf st x with
    | some t => (match isiP isa xi t c with
      | some r => .ok (.bl r) st
      | none => .bad)
    | none => .bad)
  | _, _ => .bad
def lenOf (st : Sto) : PV → Option Nat
  | .str z => if z.length ≤ 16777216 then some z.length else none
  | x => (seqOf st x).map List.length
def bLen : OpN
  | [x], st => (match lenOf st x with
    | some n => .ok (.int (n : Nat)) st
    | none => .bad)
  | _, _ => .bad
def bInt : OpN
  | [.int i], st => .ok (.int i) st
  | [.bl k], st => .ok (.int (if k then 1 else 0)) st
  | [.str z], st => (match PySem.intText? z with
    | some n => if z.length ≤ 640 then .ok (.int n) st else .bad
    | none => .bad)
  | _, _ => .bad
def bAbs : OpN
  | [.int i], st => .ok (.int (if i < 0 then -i else i)) st
  | _, _ => .bad
def bMax : OpN
  | [.int i, .int j], st => .ok (.int (if j > i then j else i)) st
  | _, _ => .bad
def bMin : OpN
  | [.int i, .int j], st => .ok (.int (if j < i then j else i)) st
  | _, _ => .bad
def bDivmod : OpN
  | [.int i, .int j], st => if 0 < j ∧ j < 1073741824 then .ok (.tup [.int (i / j), .int (i % j)]) st else .bad
  | _, _ => .bad
def bStr : OpN
  | [.int i], st => if i.natAbs.log2 < 1920 then .ok (.str (toString i)) st else .bad
  | [.str z], st => .ok (.str z) st
  | _, _ => .bad
/-- repr of data: a list or a tuple -/
def keyOf : PV → Option L2.Key
  | .int i => some (.inl i)
  | .str s => some (.inr s)
  | _ => none
def keysOf : List PV → Option (List L2.Key)
  | [] => some []
  | x :: r => match keyOf x, keysOf r with
    | some k, some ks => some (k :: ks)
    | _, _ => none
def keyD : L2.Key → PyData
  | .inl i => .int i
  | .inr s => .str s
/-- data at any depth, dicts of ints and texts among them -/
def deepR (st : Sto) : Nat → PV → Option PyData
  | 0, _ => none
  | _ + 1, .non => some .none
  | _ + 1, .bl b => some (.bool b)
  | _ + 1, .int i => some (.int i)
  | _ + 1, .str s => some (.str s)
  | n + 1, .tup xs => (mapO (deepR st n) xs).map .tuple
  | n + 1, .kt xs => (mapO (deepR st n) xs).map .tuple
  | n + 1, .lv xs => (mapO (deepR st n) xs).map .list
  | n + 1, .fl xs => (mapO (deepR st n) xs).map .list
  | n + 1, .obj k => match st[k]? with
    | some (.lst xs) => (mapO (deepR st n) xs).map .list
    | some (.dct ks xs) => if ks.length = xs.length then (mapO (deepR st n) xs).map fun ds => .dict ((ks.map keyD).zip ds) else none
    | _ => none
  | n + 1, .dv ks xs => match keysOf ks with
    | some ks' => if ks'.length = xs.length then (mapO (deepR st n) xs).map fun ds => .dict ((ks'.map keyD).zip ds) else none
    | none => none
  | _ + 1, _ => none
def reprOf (st : Sto) (x : PV) : Option Str :=
  match deepR st 64 x with
  | some d => if d.showable && decide (d.depth ≤ 64) && decide (d.shown.length ≤ 16777216) then some d.shown else none
  | none => none
def bRepr : OpN
  | [x], st => (match reprOf st x with
    | some z => .ok (.str z) st
    | none => .bad)
  | _, _ => .bad
def allBl : List PV → Option (List Bool)
  | [] => some []
  | .bl b :: r => (allBl r).map fun t => b :: t
  | _ => none
def allInt : List PV → Option (List Int)
  | [] => some []
  | .int b :: r => (allInt r).map fun t => b :: t
  | _ => none
def bAll : OpN
  | [x], st => (match (listOf st x).bind allBl with
    | some bs => .ok (.bl (bs.all id)) st
    | none => .bad)
  | _, _ => .bad
def bAny : OpN
  | [x], st => (match (listOf st x).bind allBl with
    | some bs => .ok (.bl (bs.any id)) st
    | none => .bad)
  | _, _ => .bad
def bSum : OpN
  | [x], st => (match (listOf st x).bind allInt with
    | some bs => .ok (.int bs.sum) st
    | none => .bad)
  | _, _ => .bad
def bList (mt : Bool) : OpN
  | [x], st => (match seqOf st x with
    | some xs => newL mt xs st
    | none => .bad)
  | _, _ => .bad
def bTuple : OpN
  | [.kt xs], st => .ok (.kt xs) st
  | [x], st => (match seqOf st x with
    | some xs => .ok (.tup xs) st
    | none => .bad)
  | _, _ => .bad
/-! ### methods of built-in types -/
def oAppend (x y : PV) (st : Sto) : Res PV :=
  match x with
  | .obj n => (match st[n]? with
    | some (.lst xs) => if xs.length < 16777216 then .ok .non (st.set n (.lst (xs ++ [y]))) else .bad
    | _ => .bad)
  | _ => .bad
/-- x.m(y): x a list, a text -/
def dLM (o : Op2) (a b : D PV) : D PV := fun F e st => (a F e st).bnd fun x s => match listOf s x with
  | some _ => (b F e s).bnd fun y s2 => o x y s2
  | none => .bad
def dSM (o : Op2) (a b : D PV) : D PV := fun F e st => (a F e st).bnd fun x s => match x with
  | .str z => (b F e s).bnd fun y s2 => o (.str z) y s2
  | _ => .bad
/-! ### f-strings -/
def oFmt : Op1
  | .str y, st => if y.length ≤ 16777216 then .ok (.str y) st else .bad
  | .int i, st => if i.natAbs.log2 < 1920 then .ok (.str (toString i)) st else .bad
  | _, _ => .bad
def dJs : List (D PV) → Str → D PV
  | [], acc => fun _ _ st => .ok (.str acc) st
  | a :: r, acc => fun F e st => (a F e st).bnd fun x s => match x with
    | .str y => if (acc ++ y).length ≤ 16777216 then dJs r (acc ++ y) F e s else .bad
    | _ => .bad
/-! ### dicts -/
def valP {κ : Type} [DecidableEq κ] (k : κ) : List κ → List PV → Option PV
  | j :: ks, x :: xs => if j = k then some x else valP k ks xs
  | _, _ => none
def putP {κ : Type} [DecidableEq κ] (k : κ) (v : PV) (ks : List κ) (xs : List PV) : List κ × List PV :=
  if (ks.any fun j => decide (j = k)) = true then (ks, (ks.zip xs).map fun p => if p.1 = k then v else p.2) else (ks ++ [k], xs ++ [v])
def newD (tp : Bool) (st : Sto) : Res PV := .ok (.obj st.length) (st ++ [if tp then .dtt [] [] else .dct [] []])
def dDict0 (tp : Bool) : D PV := fun _ _ st => newD tp st
/-- {k: v, ..}, constants all -/
def dDictC (ks : List L2.Key) (xs : List PV) : D PV := fun _ _ st => .ok (.obj st.length) (st ++ [.dct ks xs])
def keyP : L2.Key → PV
  | .inl i => .int i
  | .inr s => .str s
/-- .. that nobody changes -/
def dDictV (ks : List L2.Key) (xs : List PV) : D PV := dK (.dv (ks.map keyP) xs)
/-- what d holds at y: none where y is no key of d's kind -/
def dGetV (st : Sto) (o y : PV) : Option (Option PV) :=
  match o with
  | .obj n => (match st[n]?, y with
    | some (.dct ks xs), y => (keyOf y).map fun k => valP k ks xs
    | some (.dtt ks xs), .tup ys => (keysOf ys).map fun k => valP k ks xs
    | _, _ => none)
  | _ => none
def isDict (st : Sto) : PV → Bool
  | .obj n => match st[n]? with
    | some (.dct _ _) => true
    | some (.dtt _ _) => true
    | _ => false
  | _ => false
/-- d.get(y, x) -/
def dGet2 (o y x : D PV) : D PV := fun F e st => (o F e st).bnd fun d s => if isDict s d then (y F e s).bnd fun k s1 => (x F e s1).bnd fun z s2 => match dGetV s2 d k with
    | some r => .ok (r.getD z) s2
    | none => .bad
  else .bad
/-- d[y] = v -/
def oPutD (o y v : PV) (st : Sto) : Res Unit :=
  match o with
  | .obj n => (match st[n]?, y with
    | some (.dct ks xs), y => (match keyOf y with
      | some k => if ks.length < 16777216 then .ok () (st.set n (.dct (putP k v ks xs).1 (putP k v ks xs).2)) else .bad
      | none => .bad)
    | some (.dtt ks xs), .tup ys => (match keysOf ys with
      | some k => if ks.length < 16777216 then .ok () (st.set n (.dtt (putP k v ks xs).1 (putP k v ks xs).2)) else .bad
      | none => .bad)
    | _, _ => .bad)
  | _ => .bad
/-- o[y] = v by what o is -/
def oPut (o y v : PV) (st : Sto) : Res Unit := if isDict st o then oPutD o y v st else oSet o y v st
def sPut (o y a : D PV) : SD := fun F e st => (a F e st).at e fun v s => (o F e s).at e fun x s1 => (y F e s1).at e fun k s2 => (oPutD x k v s2).at e fun _ s3 => .ok (.nx e) s3
def sSub (o y a : D PV) : SD := fun F e st => (a F e st).at e fun v s => (o F e s).at e fun x s1 => (y F e s1).at e fun k s2 => (oPut x k v s2).at e fun _ s3 => .ok (.nx e) s3
def ixOf (x : PV) : List PV → Nat → Option Nat
  | [], _ => none
  | y :: r, i => if eqP y x then some i else ixOf x r (i + 1)
def oIndex (x y : PV) (st : Sto) : Res PV :=
  match listOf st x with
  | some xs => if flatP y && xs.all flatP then (match ixOf y xs 0 with
    | some i => .ok (.int (i : Nat)) st
    | none => .bad) else .bad
  | none => .bad
def oSplit (mt : Bool) : Op2
  | .str a, .str b, st => if (b.length == 0) = false ∧ a.length + 2 ≤ 16777216 then newL mt ((Txt.split a b).map .str) st else .bad
  | _, _, _ => .bad
def oFind : Op2
  | .str a, .str b, st => .ok (.int (Txt.find a b)) st
  | _, _, _ => .bad
def allStr : List PV → Option (List Str)
  | [] => some []
  | .str b :: r => (allStr r).map fun t => b :: t
  | _ => none
def oJoin : Op2
  | .str a, y, st => (match (seqOf st y).bind allStr with
    | some ys => if (ys.map (·.length)).sum + ys.length * a.length ≤ 16777216 then .ok (.str (Txt.join a ys)) st else .bad
    | none => .bad)
  | _, _, _ => .bad
end OL
set_option maxRecDepth 100000
/-! ## what a pure value stands for in the abstract heap -/
namespace OL
open PySem L2

structure RC where
  K : PySem.W.Frag
  cA : Nat → Addr
  aN : Nat → Str
  fA : Nat → Addr
  tb : List (Addr × Str)

/-- where the cells of the store stand; ex: objects that are being made (a comprehension's list) -/
structure Rho where
  cs : List (Option Addr)
  ex : List Addr
def Rho.push (r : Rho) (p : Addr) : Rho := ⟨r.cs ++ [some p], r.ex⟩
def Rho.kill (r : Rho) (n : Nat) : Rho := ⟨r.cs.set n none, r.ex⟩
def Dead (rho : Rho) (a : Addr) : Prop := (∀ n : Nat, rho.cs[n]? ≠ some (some a)) ∧ a ∉ rho.ex

/-- a tuple of the written part -/
def KTup (K : PySem.W.Frag) (a : Addr) (vs : List V) : Prop :=
  ∃ (o : Obj) (its : Array Value) (n : Nat), K.lookup a = some o ∧ o.cls = .type "tuple" ∧ o.data = .seq its n ∧ its.size ≤ sizeLine ∧ Vals vs its.toList
def KLst (K : PySem.W.Frag) (a : Addr) (vs : List V) : Prop :=
  ∃ (o : Obj) (its : Array Value) (n : Nat), K.lookup a = some o ∧ o.cls = .type "list" ∧ o.dict = none ∧ o.data = .seq its n ∧ its.size ≤ sizeLine ∧ Vals vs its.toList
def TupAt (R : RC) (rho : Rho) (H : Hp) (a : Addr) (vs : List V) : Prop := H a = some (.tup vs) ∧ Dead rho a
def FlAt (R : RC) (rho : Rho) (H : Hp) (a : Addr) (vs : List V) : Prop := (∃ o, H a = some (.frz o (.lst vs)) ∧ Dead rho a) ∨ KLst R.K a vs
theorem TupAt.sq {R : RC} {rho : Rho} {H : Hp} {a : Addr} {vs : List V} (h : TupAt R rho H a vs) : SqT R.K H a vs := .inl (.inl h.1)
theorem FlAt.sq {R : RC} {rho : Rho} {H : Hp} {a : Addr} {vs : List V} (h : FlAt R rho H a vs) : SqL R.K H a vs := by
  rcases h with ⟨o, h, _⟩ | h
  · exact .inl (.inr ⟨o, h⟩)
  · exact .inr h

/-- an exception's object at a -/
def xo (a : Addr) (oe : Obj) : HO := .ext fun h => h.get? a = some oe
/-- what an exception as a value is in the abstract heap -/
def XvAt (R : RC) (rho : Rho) (H : Hp) (c : Nat) (a : Addr) (oe : Obj) : Prop := H a = some (xo a oe) ∧ Dead rho a ∧ oe.cls = .ref (R.cA c) ∧ ∃ vs, oe.data = .fields vs
mutual
def RepV (R : RC) (rho : Rho) (H : Hp) : PV → V → Prop
  | .non, v => v = .non
  | .bl b, v => v = .bl b
  | .int i, v => v = .int i
  | .str s, v => v = .str s
  | .ty n, v => v = .ty (tyN n)
  | .cls c, v => v = .ref (R.cA c)
  | .fn f, v => v = .ref (R.fA f)
  | .tup xs, v => ∃ a vs, v = .ref a ∧ TupAt R rho H a vs ∧ RepVs R rho H xs vs
  | .kt xs, v => ∃ a vs, v = .ref a ∧ KTup R.K a vs ∧ RepVs R rho H xs vs
  | .lv xs, v => ∃ a vs, v = .ref a ∧ H a = some (.lst vs) ∧ Dead rho a ∧ RepVs R rho H xs vs
  | .fl xs, v => ∃ a vs, v = .ref a ∧ FlAt R rho H a vs ∧ RepVs R rho H xs vs
  | .iv c ks xs, v => ∃ a dx vs, v = .ref a ∧ H a = some (.ins (R.cA c) dx ((ks.map R.aN).zip vs)) ∧ Dead rho a ∧ ks.length = xs.length ∧ RepVs R rho H xs vs
  | .dv ks xs, v => ∃ a kvs, v = .ref a ∧ H a = some (.dK kvs) ∧ Dead rho a ∧ RepVs R rho H ks (kvs.map fun p => kV p.1) ∧ RepVs R rho H xs (kvs.map fun p => p.2)
  | .xv c ks xs, v => ∃ a oe, v = .ref a ∧ XvAt R rho H c a oe ∧ ((∃ dd vs, oe.dict = some dd ∧ H dd = some (.xd ((ks.map R.aN).zip vs)) ∧ Dead rho dd ∧ ks.length = xs.length ∧ RepVs R rho H xs vs) ∨ (oe.dict = none ∧ ks = [] ∧ xs = []))
  | .obj n, v => ∃ a, v = .ref a ∧ n < rho.cs.length ∧ ∀ b, rho.cs[n]? = some (some b) → b = a
def RepVs (R : RC) (rho : Rho) (H : Hp) : List PV → List V → Prop
  | [], vs => vs = []
  | x :: xs, vs => ∃ v r, vs = v :: r ∧ RepV R rho H x v ∧ RepVs R rho H xs r
end

/-- values stay what they are -/
structure MonoV (rho : Rho) (H : Hp) (rho' : Rho) (H' : Hp) : Prop where
  keep : ∀ a o, H a = some o → Dead rho a → H' a = some o
  dead : ∀ a o, H a = some o → Dead rho a → Dead rho' a
  len : rho.cs.length ≤ rho'.cs.length
  old : ∀ (n : Nat) a, n < rho.cs.length → rho'.cs[n]? = some (some a) → rho.cs[n]? = some (some a)
/-- .. and what is being made is not touched -/
structure Mono (rho : Rho) (H : Hp) (rho' : Rho) (H' : Hp) : Prop extends MonoV rho H rho' H' where
  ex : rho'.ex = rho.ex
  held : ∀ a, a ∈ rho.ex → (∀ ps, H a ≠ some (.tbl ps)) → H' a = H a
theorem MonoV.refl (rho : Rho) (H : Hp) : MonoV rho H rho H := ⟨fun _ _ h _ => h, fun _ _ _ h => h, Nat.le_refl _, fun _ _ _ h => h⟩
theorem MonoV.trans {r1 r2 r3 : Rho} {H1 H2 H3 : Hp} (a : MonoV r1 H1 r2 H2) (b : MonoV r2 H2 r3 H3) : MonoV r1 H1 r3 H3 where
  keep := fun x o h d => b.keep x o (a.keep x o h d) (a.dead x o h d)
  dead := fun x o h d => b.dead x o (a.keep x o h d) (a.dead x o h d)
  len := Nat.le_trans a.len b.len
  old := fun n x h e => a.old n x h (b.old n x (Nat.lt_of_lt_of_le h a.len) e)
theorem Mono.refl (rho : Rho) (H : Hp) : Mono rho H rho H := ⟨MonoV.refl _ _, rfl, fun _ _ _ => rfl⟩
theorem Mono.trans {r1 r2 r3 : Rho} {H1 H2 H3 : Hp} (a : Mono r1 H1 r2 H2) (b : Mono r2 H2 r3 H3) : Mono r1 H1 r3 H3 :=
  ⟨MonoV.trans a.toMonoV b.toMonoV, b.ex.trans a.ex, fun x h n => (b.held x (by rw [a.ex]; exact h) (by rw [a.held x h n]; exact n)).trans (a.held x h n)⟩

theorem TupAt.monoV {R : RC} {r1 r2 : Rho} {H1 H2 : Hp} {a : Addr} {vs : List V} (M : MonoV r1 H1 r2 H2) (h : TupAt R r1 H1 a vs) : TupAt R r2 H2 a vs := ⟨M.keep _ _ h.1 h.2, M.dead _ _ h.1 h.2⟩
theorem FlAt.monoV {R : RC} {r1 r2 : Rho} {H1 H2 : Hp} {a : Addr} {vs : List V} (M : MonoV r1 H1 r2 H2) (h : FlAt R r1 H1 a vs) : FlAt R r2 H2 a vs := by
  rcases h with ⟨o, h, d⟩ | h
  · exact .inl ⟨o, M.keep _ _ h d, M.dead _ _ h d⟩
  · exact .inr h
mutual
theorem RepV.monoV {R : RC} {r1 r2 : Rho} {H1 H2 : Hp} (M : MonoV r1 H1 r2 H2) : ∀ (x : PV) (v : V), RepV R r1 H1 x v → RepV R r2 H2 x v
  | .non, v, h => by simp only [RepV] at h ⊢; exact h
  | .bl b, v, h => by simp only [RepV] at h ⊢; exact h
  | .int i, v, h => by simp only [RepV] at h ⊢; exact h
  | .str s, v, h => by simp only [RepV] at h ⊢; exact h
  | .ty n, v, h => by simp only [RepV] at h ⊢; exact h
  | .cls c, v, h => by simp only [RepV] at h ⊢; exact h
  | .fn f, v, h => by simp only [RepV] at h ⊢; exact h
  | .tup xs, v, h => by
    simp only [RepV] at h ⊢
    obtain ⟨a, vs, e, t, r⟩ := h
    exact ⟨a, vs, e, t.monoV M, RepVs.monoV M xs vs r⟩
  | .kt xs, v, h => by
    simp only [RepV] at h ⊢
    obtain ⟨a, vs, e, t, r⟩ := h
    exact ⟨a, vs, e, t, RepVs.monoV M xs vs r⟩
  | .lv xs, v, h => by
    simp only [RepV] at h ⊢
    obtain ⟨a, vs, e, t, d, r⟩ := h
    exact ⟨a, vs, e, M.keep _ _ t d, M.dead _ _ t d, RepVs.monoV M xs vs r⟩
  | .fl xs, v, h => by
    simp only [RepV] at h ⊢
    obtain ⟨a, vs, e, t, r⟩ := h
    exact ⟨a, vs, e, t.monoV M, RepVs.monoV M xs vs r⟩
  | .iv c ks xs, v, h => by
    simp only [RepV] at h ⊢
    obtain ⟨a, dx, vs, e, t, d, l, r⟩ := h
    exact ⟨a, dx, vs, e, M.keep _ _ t d, M.dead _ _ t d, l, RepVs.monoV M xs vs r⟩
  | .dv ks xs, v, h => by
    simp only [RepV] at h ⊢
    obtain ⟨a, kvs, e, t, d, rk, r⟩ := h
    exact ⟨a, kvs, e, M.keep _ _ t d, M.dead _ _ t d, RepVs.monoV M ks _ rk, RepVs.monoV M xs _ r⟩
  | .xv c ks xs, v, h => by
    simp only [RepV] at h ⊢
    obtain ⟨a, oe, e, ⟨x1, x2, x3, x4⟩, q⟩ := h
    refine ⟨a, oe, e, ⟨M.keep _ _ x1 x2, M.dead _ _ x1 x2, x3, x4⟩, ?_⟩
    rcases q with ⟨dd, vs, e1, e2, e3, e4, e5⟩ | q
    · exact .inl ⟨dd, vs, e1, M.keep _ _ e2 e3, M.dead _ _ e2 e3, e4, RepVs.monoV M xs vs e5⟩
    · exact .inr q
  | .obj n, v, h => by
    simp only [RepV] at h ⊢
    obtain ⟨a, e, l, u⟩ := h
    exact ⟨a, e, Nat.lt_of_lt_of_le l M.len, fun b hb => u b (M.old n b l hb)⟩
theorem RepVs.monoV {R : RC} {r1 r2 : Rho} {H1 H2 : Hp} (M : MonoV r1 H1 r2 H2) : ∀ (xs : List PV) (vs : List V), RepVs R r1 H1 xs vs → RepVs R r2 H2 xs vs
  | [], vs, h => by simp only [RepVs] at h ⊢; exact h
  | x :: xs, vs, h => by
    simp only [RepVs] at h ⊢
    obtain ⟨v, r, e, h1, h2⟩ := h
    exact ⟨v, r, e, RepV.monoV M x v h1, RepVs.monoV M xs r h2⟩
end

theorem TupAt.mono {R : RC} {r1 r2 : Rho} {H1 H2 : Hp} {a : Addr} {vs : List V} (M : Mono r1 H1 r2 H2) (h : TupAt R r1 H1 a vs) : TupAt R r2 H2 a vs := h.monoV M.toMonoV
theorem FlAt.mono {R : RC} {r1 r2 : Rho} {H1 H2 : Hp} {a : Addr} {vs : List V} (M : Mono r1 H1 r2 H2) (h : FlAt R r1 H1 a vs) : FlAt R r2 H2 a vs := h.monoV M.toMonoV
theorem RepV.mono {R : RC} {r1 r2 : Rho} {H1 H2 : Hp} {x : PV} {v : V} (h : RepV R r1 H1 x v) (M : Mono r1 H1 r2 H2) : RepV R r2 H2 x v := RepV.monoV M.toMonoV x v h
theorem RepVs.mono {R : RC} {r1 r2 : Rho} {H1 H2 : Hp} {xs : List PV} {vs : List V} (h : RepVs R r1 H1 xs vs) (M : Mono r1 H1 r2 H2) : RepVs R r2 H2 xs vs := RepVs.monoV M.toMonoV xs vs h

section
variable {R : RC} {rho : Rho} {H : Hp}
theorem RepVs.nil_iff {vs : List V} : RepVs R rho H [] vs ↔ vs = [] := by simp only [RepVs]
theorem RepVs.cons {x : PV} {xs : List PV} {v : V} {vs : List V} (h : RepV R rho H x v) (t : RepVs R rho H xs vs) : RepVs R rho H (x :: xs) (v :: vs) := by
  simp only [RepVs]; exact ⟨v, vs, rfl, h, t⟩
theorem RepVs.length : ∀ {xs : List PV} {vs : List V}, RepVs R rho H xs vs → xs.length = vs.length
  | [], vs, h => by simp only [RepVs] at h; subst h; rfl
  | x :: xs, vs, h => by
    simp only [RepVs] at h
    obtain ⟨v, r, e, _, t⟩ := h
    subst e
    rw [List.length_cons, List.length_cons, RepVs.length t]
theorem RepVs.get : ∀ {xs : List PV} {vs : List V} {i : Nat} {x : PV}, RepVs R rho H xs vs → xs[i]? = some x → ∃ v, vs[i]? = some v ∧ RepV R rho H x v
  | [], _, _, _, _, e => by simp at e
  | y :: ys, vs, i, x, h, e => by
    simp only [RepVs] at h
    obtain ⟨v, r, ev, h1, h2⟩ := h
    subst ev
    cases i with
    | zero => simp at e; subst e; exact ⟨v, by simp, h1⟩
    | succ i =>
      obtain ⟨w, e1, e2⟩ := RepVs.get (i := i) (x := x) h2 (by simpa using e)
      exact ⟨w, by simpa using e1, e2⟩
theorem RepVs.getV : ∀ {xs : List PV} {vs : List V} {i : Nat} {v : V}, RepVs R rho H xs vs → vs[i]? = some v → ∃ x, xs[i]? = some x ∧ RepV R rho H x v := fun {xs vs i v} h e => by
  have hl := h.length
  have hi : i < vs.length := (List.getElem?_eq_some_iff.mp e).1
  have hx : xs[i]? = some (xs[i]'(by omega)) := List.getElem?_eq_getElem (by omega)
  obtain ⟨w, e1, e2⟩ := h.get hx
  rw [e] at e1
  cases e1
  exact ⟨_, hx, e2⟩
theorem RepVs.append : ∀ {xs ys : List PV} {vs ws : List V}, RepVs R rho H xs vs → RepVs R rho H ys ws → RepVs R rho H (xs ++ ys) (vs ++ ws)
  | [], _, vs, ws, h, t => by simp only [RepVs] at h; subst h; exact t
  | x :: xs, ys, vs, ws, h, t => by
    simp only [RepVs] at h
    obtain ⟨v, r, e, h1, h2⟩ := h
    subst e
    exact RepVs.cons h1 (RepVs.append h2 t)
theorem RepVs.set : ∀ {xs : List PV} {vs : List V} {x : PV} {v : V} (i : Nat), RepVs R rho H xs vs → RepV R rho H x v → RepVs R rho H (xs.set i x) (vs.set i v)
  | [], vs, _, _, i, h, _ => by simp only [RepVs] at h; subst h; simp [RepVs]
  | y :: ys, vs, x, v, i, h, hx => by
    simp only [RepVs] at h
    obtain ⟨w, r, e, h1, h2⟩ := h
    subst e
    cases i with
    | zero => exact RepVs.cons hx h2
    | succ i => exact RepVs.cons h1 (RepVs.set i h2 hx)
theorem RepVs.take : ∀ {xs : List PV} {vs : List V} (i : Nat), RepVs R rho H xs vs → RepVs R rho H (xs.take i) (vs.take i)
  | [], vs, i, h => by simp only [RepVs] at h; subst h; simp [RepVs]
  | y :: ys, vs, i, h => by
    simp only [RepVs] at h
    obtain ⟨w, r, e, h1, h2⟩ := h
    subst e
    cases i with
    | zero => simp [RepVs]
    | succ i => exact RepVs.cons h1 (RepVs.take i h2)
theorem RepVs.drop : ∀ {xs : List PV} {vs : List V} (i : Nat), RepVs R rho H xs vs → RepVs R rho H (xs.drop i) (vs.drop i)
  | [], vs, i, h => by simp only [RepVs] at h; subst h; simp [RepVs]
  | y :: ys, vs, i, h => by
    have h' := h
    simp only [RepVs] at h
    obtain ⟨w, r, e, h1, h2⟩ := h
    subst e
    cases i with
    | zero => exact h'
    | succ i => exact RepVs.drop i h2
end

/-! ### the store -/
def CellRep (R : RC) (rho : Rho) (H : Hp) (n : Nat) : Cell → Prop
  | .lst xs => ∃ a vs, rho.cs[n]? = some (some a) ∧ H a = some (.lst vs) ∧ RepVs R rho H xs vs
  | .ins c ks xs => ∃ a dx vs, rho.cs[n]? = some (some a) ∧ H a = some (.ins (R.cA c) dx ((ks.map R.aN).zip vs)) ∧ ks.length = xs.length ∧ RepVs R rho H xs vs
  | .dct ks xs => ∃ a vs, rho.cs[n]? = some (some a) ∧ H a = some (.dK (ks.zip vs)) ∧ ks.length = xs.length ∧ RepVs R rho H xs vs
  | .dtt ks xs => ∃ a vs, rho.cs[n]? = some (some a) ∧ H a = some (.dT (ks.zip vs)) ∧ ks.length = xs.length ∧ RepVs R rho H xs vs
  | .dead => rho.cs[n]? = some none
structure StRep (R : RC) (rho : Rho) (st : Sto) (H : Hp) : Prop where
  len : rho.cs.length = st.length
  inj : ∀ (n m : Nat) a, rho.cs[n]? = some (some a) → rho.cs[m]? = some (some a) → n = m
  cell : ∀ (n : Nat) c, st[n]? = some c → CellRep R rho H n c
  apart : ∀ (n : Nat) a, rho.cs[n]? = some (some a) → a ∉ rho.ex
  res : ∀ a, a ∈ rho.ex → ∃ o, H a = some o
  tab : LamX.Tabs R.tb H
  tin : ∀ p, p ∈ R.tb → p.1 ∈ rho.ex
/-- no table, no code object -/
def NotT (o : HO) : Prop := (∀ ps, o ≠ .tbl ps) ∧ ∀ c q, o ≠ LamX.CodeO c q
theorem tabs_upd {T : List (Addr × Str)} {H : Hp} {a : Addr} {o : HO} (t : LamX.Tabs T H) (h : H a = none ∨ ∃ u, H a = some u ∧ NotT u) : LamX.Tabs T (upd H a o) := fun p hp => by
  obtain ⟨ps, h1, h2, h3⟩ := t p hp
  have ne : ∀ {b : Addr} {u : HO}, H b = some u → (∃ ps, u = .tbl ps) ∨ (∃ c q, u = LamX.CodeO c q) → b ≠ a := fun {b u} e k z => by
    subst z
    rcases h with h | ⟨v, h, n1, n2⟩
    · rw [h] at e; cases e
    · rw [h] at e
      cases e
      rcases k with ⟨ps, k⟩ | ⟨c, q, k⟩
      · exact n1 ps k
      · exact n2 c q k
  refine ⟨ps, by rw [upd_ne (ne h1 (.inl ⟨_, rfl⟩))]; exact h1, h2, fun pos cv hc => ?_⟩
  obtain ⟨c, e1, e2⟩ := h3 pos cv hc
  exact ⟨c, e1, by rw [upd_ne (ne e2 (.inr ⟨_, _, rfl⟩))]; exact e2⟩

section
variable {R : RC} {rho rho' : Rho} {st : Sto} {H H' : Hp}
theorem CellRep.live {n : Nat} {c : Cell} {a : Addr} (h : CellRep R rho H n c) (e : rho.cs[n]? = some (some a)) : ∃ o, H a = some o := by
  cases c with
  | lst xs => obtain ⟨b, vs, eb, hb, _⟩ := h; rw [e] at eb; cases eb; exact ⟨_, hb⟩
  | ins c ks xs => obtain ⟨b, dx, vs, eb, hb, _⟩ := h; rw [e] at eb; cases eb; exact ⟨_, hb⟩
  | dct ks xs => obtain ⟨b, vs, eb, hb, _⟩ := h; rw [e] at eb; cases eb; exact ⟨_, hb⟩
  | dtt ks xs => obtain ⟨b, vs, eb, hb, _⟩ := h; rw [e] at eb; cases eb; exact ⟨_, hb⟩
  | dead => rw [show rho.cs[n]? = some none from h] at e; cases e
theorem CellRep.shape {n : Nat} {c : Cell} {a : Addr} (h : CellRep R rho H n c) (e : rho.cs[n]? = some (some a)) : ∃ u, H a = some u ∧ NotT u := by
  cases c with
  | lst xs => obtain ⟨b, vs, eb, hb, _⟩ := h; rw [e] at eb; cases eb; exact ⟨_, hb, fun _ z => by (cases z), fun _ _ z => by (unfold LamX.CodeO at z; cases z)⟩
  | ins c ks xs => obtain ⟨b, dx, vs, eb, hb, _⟩ := h; rw [e] at eb; cases eb; exact ⟨_, hb, fun _ z => by (cases z), fun _ _ z => by (unfold LamX.CodeO at z; cases z)⟩
  | dct ks xs => obtain ⟨b, vs, eb, hb, _⟩ := h; rw [e] at eb; cases eb; exact ⟨_, hb, fun _ z => by (cases z), fun _ _ z => by (unfold LamX.CodeO at z; cases z)⟩
  | dtt ks xs => obtain ⟨b, vs, eb, hb, _⟩ := h; rw [e] at eb; cases eb; exact ⟨_, hb, fun _ z => by (cases z), fun _ _ z => by (unfold LamX.CodeO at z; cases z)⟩
  | dead => rw [show rho.cs[n]? = some none from h] at e; cases e
theorem StRep.shape (S : StRep R rho st H) {n : Nat} {a : Addr} (e : rho.cs[n]? = some (some a)) : ∃ u, H a = some u ∧ NotT u := by
  have hn : n < rho.cs.length := (List.getElem?_eq_some_iff.mp e).1
  rw [S.len] at hn
  exact (S.cell n _ (List.getElem?_eq_getElem hn)).shape e
theorem StRep.live (S : StRep R rho st H) {n : Nat} {a : Addr} (e : rho.cs[n]? = some (some a)) : ∃ o, H a = some o := by
  have hn : n < rho.cs.length := (List.getElem?_eq_some_iff.mp e).1
  rw [S.len] at hn
  exact (S.cell n _ (List.getElem?_eq_getElem hn)).live e
theorem StRep.deadOf (S : StRep R rho st H) {p : Addr} (h : H p = none) : Dead rho p := by
  refine ⟨fun n e => ?_, fun e => ?_⟩
  · obtain ⟨o, ho⟩ := S.live e
    rw [h] at ho
    cases ho
  · obtain ⟨o, ho⟩ := S.res p e
    rw [h] at ho
    cases ho
theorem StRep.heldNe (S : StRep R rho st H) {p a : Addr} (h : H p = none) (e : a ∈ rho.ex) : a ≠ p := fun q => by
  subst q
  obtain ⟨o, ho⟩ := S.res a e
  rw [h] at ho; cases ho
/-- cells stay where the heap stays at live places and values stay -/
theorem CellRep.stay {n : Nat} {c : Cell} (M : MonoV rho H rho' H') (ha : ∀ a o, rho.cs[n]? = some (some a) → H a = some o → H' a = some o ∧ rho'.cs[n]? = some (some a)) (hd : rho.cs[n]? = some none → rho'.cs[n]? = some none) (h : CellRep R rho H n c) : CellRep R rho' H' n c := by
  cases c with
  | lst xs =>
    obtain ⟨a, vs, e, hb, r⟩ := h
    obtain ⟨h1, h2⟩ := ha a _ e hb
    exact ⟨a, vs, h2, h1, RepVs.monoV M _ _ r⟩
  | ins c ks xs =>
    obtain ⟨a, dx, vs, e, hb, l, r⟩ := h
    obtain ⟨h1, h2⟩ := ha a _ e hb
    exact ⟨a, dx, vs, h2, h1, l, RepVs.monoV M _ _ r⟩
  | dct ks xs =>
    obtain ⟨a, vs, e, hb, l, r⟩ := h
    obtain ⟨h1, h2⟩ := ha a _ e hb
    exact ⟨a, vs, h2, h1, l, RepVs.monoV M _ _ r⟩
  | dtt ks xs =>
    obtain ⟨a, vs, e, hb, l, r⟩ := h
    obtain ⟨h1, h2⟩ := ha a _ e hb
    exact ⟨a, vs, h2, h1, l, RepVs.monoV M _ _ r⟩
  | dead => exact hd h
/-- a new object outside the store -/
theorem Mono.fresh {p : Addr} {o : HO} (S : StRep R rho st H) (h : H p = none) : Mono rho H rho (upd H p o) where
  keep := fun a u e _ => by rw [upd_ne (ne_of_none e h)]; exact e
  dead := fun _ _ _ d => d
  len := Nat.le_refl _
  old := fun _ _ _ e => e
  ex := rfl
  held := fun a e _ => upd_ne (S.heldNe h e)
theorem StRep.fresh {p : Addr} {o : HO} (S : StRep R rho st H) (h : H p = none) : StRep R rho st (upd H p o) where
  len := S.len
  inj := S.inj
  cell := fun n c e => (S.cell n c e).stay (Mono.fresh S h).toMonoV (fun a u e1 e2 => ⟨by rw [upd_ne (ne_of_none e2 h)]; exact e2, e1⟩) fun e1 => e1
  apart := S.apart
  res := fun a e => by
    obtain ⟨u, hu⟩ := S.res a e
    exact ⟨u, by rw [upd_ne (S.heldNe h e)]; exact hu⟩
  tab := tabs_upd S.tab (.inl h)
  tin := S.tin
theorem get_push {α : Type} {l : List α} {x : α} : (l ++ [x])[l.length]? = some x := by
  simp
/-- a new cell -/
theorem Mono.push {p : Addr} {o : HO} (S : StRep R rho st H) (h : H p = none) : Mono rho H (rho.push p) (upd H p o) where
  keep := fun a u e _ => by rw [upd_ne (ne_of_none e h)]; exact e
  dead := fun a u e d => by
    refine ⟨fun n q => ?_, d.2⟩
    have q : (rho.cs ++ [some p])[n]? = some (some a) := q
    by_cases hn : n < rho.cs.length
    · rw [List.getElem?_append_left hn] at q
      exact d.1 n q
    · rw [List.getElem?_append_right (Nat.le_of_not_lt hn)] at q
      cases hk : n - rho.cs.length with
      | zero => rw [hk] at q; simp at q; subst q; rw [h] at e; cases e
      | succ k => rw [hk] at q; simp at q
  len := by simp [Rho.push]
  old := fun n a hn e => by
    have e : (rho.cs ++ [some p])[n]? = some (some a) := e
    rw [List.getElem?_append_left hn] at e; exact e
  ex := rfl
  held := fun a e _ => upd_ne (S.heldNe h e)
theorem StRep.push {p : Addr} {o : HO} {c : Cell} (S : StRep R rho st H) (h : H p = none) (hc : CellRep R (rho.push p) (upd H p o) rho.cs.length c) : StRep R (rho.push p) (st ++ [c]) (upd H p o) where
  len := by simp [S.len, Rho.push]
  inj := fun n m a e1 e2 => by
    have e1 : (rho.cs ++ [some p])[n]? = some (some a) := e1
    have e2 : (rho.cs ++ [some p])[m]? = some (some a) := e2
    by_cases hn : n < rho.cs.length
    · rw [List.getElem?_append_left hn] at e1
      by_cases hm : m < rho.cs.length
      · rw [List.getElem?_append_left hm] at e2
        exact S.inj n m a e1 e2
      · obtain ⟨u, hu⟩ := S.live e1
        have hm2 : m = rho.cs.length := by
          have := (List.getElem?_eq_some_iff.mp e2).1
          simp at this; omega
        subst hm2
        rw [get_push] at e2
        cases e2
        rw [h] at hu; cases hu
    · have hn2 : n = rho.cs.length := by
        have := (List.getElem?_eq_some_iff.mp e1).1
        simp at this; omega
      by_cases hm : m < rho.cs.length
      · subst hn2
        rw [get_push] at e1
        cases e1
        rw [List.getElem?_append_left hm] at e2
        obtain ⟨u, hu⟩ := S.live e2
        rw [h] at hu; cases hu
      · have hm2 : m = rho.cs.length := by
          have := (List.getElem?_eq_some_iff.mp e2).1
          simp at this; omega
        rw [hn2, hm2]
  cell := fun n k e => by
    by_cases hn : n < st.length
    · rw [List.getElem?_append_left hn] at e
      refine (S.cell n k e).stay (Mono.push S h).toMonoV (fun a u e1 e2 => ⟨by rw [upd_ne (ne_of_none e2 h)]; exact e2, ?_⟩) fun e1 => ?_
      · show (rho.cs ++ [some p])[n]? = _
        rw [List.getElem?_append_left (by rw [S.len]; exact hn)]; exact e1
      · show (rho.cs ++ [some p])[n]? = _
        rw [List.getElem?_append_left (by rw [S.len]; exact hn)]; exact e1
    · have hn2 : n = st.length := by
        have := (List.getElem?_eq_some_iff.mp e).1
        simp at this; omega
      subst hn2
      rw [get_push] at e
      cases e
      rw [← S.len]
      exact hc
  apart := fun n a e => by
    have e : (rho.cs ++ [some p])[n]? = some (some a) := e
    by_cases hn : n < rho.cs.length
    · rw [List.getElem?_append_left hn] at e
      exact S.apart n a e
    · have hn2 : n = rho.cs.length := by
        have := (List.getElem?_eq_some_iff.mp e).1
        simp at this; omega
      subst hn2
      rw [get_push] at e
      cases e
      exact (S.deadOf h).2
  res := fun a e => by
    obtain ⟨u, hu⟩ := S.res a e
    exact ⟨u, by rw [upd_ne (S.heldNe h e)]; exact hu⟩
  tab := tabs_upd S.tab (.inl h)
  tin := S.tin
/-- a cell is written -/
theorem Mono.write {n : Nat} {a : Addr} {o : HO} (S : StRep R rho st H) (e : rho.cs[n]? = some (some a)) : Mono rho H rho (upd H a o) where
  keep := fun b u hb d => by
    have : b ≠ a := fun q => d.1 n (by rw [q]; exact e)
    rw [upd_ne this]; exact hb
  dead := fun _ _ _ d => d
  len := Nat.le_refl _
  old := fun _ _ _ e => e
  ex := rfl
  held := fun b hb _ => upd_ne fun q => S.apart n a e (by rw [← q]; exact hb)
theorem StRep.write {n : Nat} {a : Addr} {o : HO} {c : Cell} (S : StRep R rho st H) (e : rho.cs[n]? = some (some a)) (hc : CellRep R rho (upd H a o) n c) : StRep R rho (st.set n c) (upd H a o) where
  len := by simp [S.len]
  inj := S.inj
  cell := fun m k em => by
    by_cases hm : m = n
    · subst hm
      have hl : m < st.length := by
        have := (List.getElem?_eq_some_iff.mp e).1
        rw [S.len] at this; exact this
      rw [List.getElem?_set_self hl] at em
      cases em
      exact hc
    · rw [List.getElem?_set_ne (Ne.symm hm)] at em
      refine (S.cell m k em).stay (Mono.write S e).toMonoV (fun b u e1 e2 => ⟨?_, e1⟩) fun e1 => e1
      have : b ≠ a := fun q => hm (S.inj m n a (by rw [← q]; exact e1) e)
      rw [upd_ne this]; exact e2
  apart := S.apart
  res := fun b hb => by
    obtain ⟨u, hu⟩ := S.res b hb
    exact ⟨u, by rw [upd_ne fun q => S.apart n a e (by rw [← q]; exact hb)]; exact hu⟩
  tab := tabs_upd S.tab (.inr (S.shape e))
  tin := S.tin
/-- a cell is taken out of the store (frozen) -/
theorem kill_old {n j : Nat} {a b : Addr} (e : rho.cs[n]? = some (some a)) (q : (rho.kill n).cs[j]? = some (some b)) : rho.cs[j]? = some (some b) ∧ j ≠ n := by
  have q : (rho.cs.set n none)[j]? = some (some b) := q
  by_cases hj : j = n
  · subst hj
    rw [List.getElem?_set_self (List.getElem?_eq_some_iff.mp e).1] at q
    cases q
  · rw [List.getElem?_set_ne (Ne.symm hj)] at q
    exact ⟨q, hj⟩
theorem Mono.kill {n : Nat} {a : Addr} (S : StRep R rho st H) (e : rho.cs[n]? = some (some a)) : Mono rho H (rho.kill n) H where
  keep := fun _ _ h _ => h
  dead := fun b u hb d => ⟨fun m q => d.1 m (kill_old e q).1, d.2⟩
  len := by simp [Rho.kill]
  old := fun m b hm q => (kill_old e q).1
  ex := rfl
  held := fun _ _ _ => rfl
theorem StRep.kill {n : Nat} {a : Addr} (S : StRep R rho st H) (e : rho.cs[n]? = some (some a)) : StRep R (rho.kill n) (st.set n .dead) H where
  len := by simp [S.len, Rho.kill]
  inj := fun m k b e1 e2 => S.inj m k b (kill_old e e1).1 (kill_old e e2).1
  cell := fun m k em => by
    by_cases hm : m = n
    · subst hm
      have hl : m < rho.cs.length := (List.getElem?_eq_some_iff.mp e).1
      rw [List.getElem?_set_self (by rw [← S.len]; exact hl)] at em
      cases em
      show (rho.cs.set m none)[m]? = some none
      rw [List.getElem?_set_self hl]
    · rw [List.getElem?_set_ne (Ne.symm hm)] at em
      refine (S.cell m k em).stay (Mono.kill S e).toMonoV (fun b u e1 e2 => ⟨e2, ?_⟩) fun e1 => ?_
      · show (rho.cs.set n none)[m]? = _
        rw [List.getElem?_set_ne (Ne.symm hm)]; exact e1
      · show (rho.cs.set n none)[m]? = _
        rw [List.getElem?_set_ne (Ne.symm hm)]; exact e1
  apart := fun m b q => S.apart m b (kill_old e q).1
  res := S.res
  tab := S.tab
  tin := S.tin
theorem StRep.killed {n : Nat} {a : Addr} (S : StRep R rho st H) (e : rho.cs[n]? = some (some a)) : Dead (rho.kill n) a :=
  ⟨fun m q => (kill_old e q).2 (S.inj m n a (kill_old e q).1 e), S.apart n a e⟩
end

/-! ### what is being made -/
def Rho.hold (r : Rho) (p : Addr) : Rho := ⟨r.cs, p :: r.ex⟩
section
variable {R : RC} {rho rho' : Rho} {st : Sto} {H H' : Hp}
theorem MonoV.hold {p : Addr} {o : HO} (h : H p = none) : MonoV rho H (rho.hold p) (upd H p o) where
  keep := fun a u e _ => by rw [upd_ne (ne_of_none e h)]; exact e
  dead := fun a u e d => ⟨d.1, fun q => by
    rcases List.mem_cons.mp q with q | q
    · rw [q, h] at e; cases e
    · exact d.2 q⟩
  len := Nat.le_refl _
  old := fun _ _ _ e => e
theorem StRep.hold {p : Addr} {o : HO} (S : StRep R rho st H) (h : H p = none) : StRep R (rho.hold p) st (upd H p o) where
  len := S.len
  inj := S.inj
  cell := fun n c e => (S.cell n c e).stay (MonoV.hold h) (fun a u e1 e2 => ⟨by rw [upd_ne (ne_of_none e2 h)]; exact e2, e1⟩) fun e1 => e1
  apart := fun n a e q => by
    rcases List.mem_cons.mp q with q | q
    · obtain ⟨u, hu⟩ := S.live e
      rw [q, h] at hu; cases hu
    · exact S.apart n a e q
  res := fun a e => by
    rcases List.mem_cons.mp e with e | e
    · subst e; exact ⟨o, upd_same⟩
    · obtain ⟨u, hu⟩ := S.res a e
      exact ⟨u, by rw [upd_ne (S.heldNe h e)]; exact hu⟩
  tab := tabs_upd S.tab (.inl h)
  tin := fun p hp => List.mem_cons_of_mem _ (S.tin p hp)
/-- what is being made is written -/
theorem MonoV.held {p : Addr} {o : HO} (hp : p ∈ rho.ex) : MonoV rho H rho (upd H p o) where
  keep := fun a u e d => by rw [upd_ne fun q => d.2 (by rw [q]; exact hp)]; exact e
  dead := fun _ _ _ d => d
  len := Nat.le_refl _
  old := fun _ _ _ e => e
theorem StRep.held {p : Addr} {o : HO} (S : StRep R rho st H) (hp : p ∈ rho.ex) (hn : ∃ u, H p = some u ∧ NotT u) : StRep R rho st (upd H p o) where
  len := S.len
  inj := S.inj
  cell := fun n c e => (S.cell n c e).stay (MonoV.held hp) (fun a u e1 e2 => ⟨by rw [upd_ne fun q => S.apart n a e1 (by rw [q]; exact hp)]; exact e2, e1⟩) fun e1 => e1
  apart := S.apart
  res := fun a e => by
    by_cases h : a = p
    · subst h; exact ⟨o, upd_same⟩
    · obtain ⟨u, hu⟩ := S.res a e
      exact ⟨u, by rw [upd_ne h]; exact hu⟩
  tab := tabs_upd S.tab (.inr hn)
  tin := S.tin
/-- it is made -/
theorem MonoV.drop {p : Addr} : MonoV (rho.hold p) H rho H where
  keep := fun _ _ e _ => e
  dead := fun a u e d => ⟨d.1, fun q => d.2 (List.mem_cons_of_mem _ q)⟩
  len := Nat.le_refl _
  old := fun _ _ _ e => e
theorem StRep.drop {p : Addr} (S : StRep R (rho.hold p) st H) (hn : ∃ u, H p = some u ∧ NotT u) : StRep R rho st H where
  len := S.len
  inj := S.inj
  cell := fun n c e => (S.cell n c e).stay MonoV.drop (fun a u e1 e2 => ⟨e2, e1⟩) fun e1 => e1
  apart := fun n a e q => S.apart n a e (List.mem_cons_of_mem _ q)
  res := fun a e => S.res a (List.mem_cons_of_mem _ e)
  tab := S.tab
  tin := fun q hq => by
    rcases List.mem_cons.mp (S.tin q hq) with z | z
    · obtain ⟨ps, h1, _⟩ := S.tab q hq
      obtain ⟨u, h2, h3, _⟩ := hn
      rw [z, h2] at h1
      exact absurd (Option.some.inj h1) (h3 ps)
    · exact z
end

/-! ### frames -/
structure EnvRep (R : RC) (rho : Rho) (H : Hp) (env : LEnv) (sg : St) : Prop where
  len : env.length = sg.length
  at_ : ∀ (i : Nat) x, env[i]? = some (some x) → ∃ v, sg[i]? = some (some v) ∧ RepV R rho H x v
theorem EnvRep.monoV {R : RC} {r1 r2 : Rho} {H1 H2 : Hp} {env : LEnv} {sg : St} (h : EnvRep R r1 H1 env sg) (M : MonoV r1 H1 r2 H2) : EnvRep R r2 H2 env sg :=
  ⟨h.len, fun i x e => let ⟨v, h1, h2⟩ := h.at_ i x e; ⟨v, h1, RepV.monoV M _ _ h2⟩⟩
theorem EnvRep.mono {R : RC} {r1 r2 : Rho} {H1 H2 : Hp} {env : LEnv} {sg : St} (h : EnvRep R r1 H1 env sg) (M : Mono r1 H1 r2 H2) : EnvRep R r2 H2 env sg := h.monoV M.toMonoV
theorem EnvRep.set {R : RC} {rho : Rho} {H : Hp} {env : LEnv} {sg : St} {x : PV} {v : V} (h : EnvRep R rho H env sg) (i : Nat) (r : RepV R rho H x v) : EnvRep R rho H (env.set i (some x)) (sg.set i (some v)) := by
  refine ⟨by simp [h.len], fun j y e => ?_⟩
  by_cases hj : j = i
  · subst hj
    have hl : j < env.length := by
      have := (List.getElem?_eq_some_iff.mp e).1
      simpa using this
    rw [List.getElem?_set_self hl] at e
    cases e
    exact ⟨v, List.getElem?_set_self (by rw [← h.len]; exact hl), r⟩
  · rw [List.getElem?_set_ne (Ne.symm hj)] at e
    obtain ⟨w, h1, h2⟩ := h.at_ j y e
    exact ⟨w, by rw [List.getElem?_set_ne (Ne.symm hj)]; exact h1, h2⟩

/-- an exception in the air -/
def ExcRep (R : RC) (rho : Rho) (H : Hp) (c : Nat) (ks : List Nat) (xs : List PV) (cls : Value) (d : Option Addr) : Prop :=
  cls = .ref (R.cA c) ∧ ((∃ dd vs, d = some dd ∧ H dd = some (.xd ((ks.map R.aN).zip vs)) ∧ Dead rho dd ∧ ks.length = xs.length ∧ RepVs R rho H xs vs) ∨ (d = none ∧ ks = [] ∧ xs = []))
end OL
set_option maxRecDepth 100000
set_option maxHeartbeats 0
/-! ## soundness: expressions and tests -/
namespace OL
open PySem L2

def Good (R : RC) {α β : Type} (rel : Rho → Hp → α → β → Prop) (rho : Rho) (H : Hp) (r : Res α) (Wx : Value → Option Addr → Hp → Prop) (Q : β → Hp → Prop) : Prop :=
  match r with
  | .ok a st' => ∀ rho' H' b, Mono rho H rho' H' → StRep R rho' st' H' → rel rho' H' a b → Q b H'
  | .exc c ks xs st' => ∀ rho' H' cls d, Mono rho H rho' H' → StRep R rho' st' H' → ExcRep R rho' H' c ks xs cls d → Wx cls d H'
  | .bad => False

section
variable {R : RC} {α β γ δ : Type} {rel : Rho → Hp → α → β → Prop} {rel2 : Rho → Hp → γ → δ → Prop} {rho rho' : Rho} {H H' : Hp} {Wx : Value → Option Addr → Hp → Prop}
theorem Good.imp {r : Res α} {Q Q' : β → Hp → Prop} (g : Good R rel rho H r Wx Q) (k : ∀ b H', Q b H' → Q' b H') : Good R rel rho H r Wx Q' := by
  cases r with
  | ok a st => exact fun rho' H' b M S e => k b H' (g rho' H' b M S e)
  | exc c ks xs st => exact g
  | bad => exact g
theorem Good.shift {r : Res α} {Q : β → Hp → Prop} (M : Mono rho H rho' H') (g : Good R rel rho H r Wx Q) : Good R rel rho' H' r Wx Q := by
  cases r with
  | ok a st => exact fun r2 H2 b M2 S e => g r2 H2 b (M.trans M2) S e
  | exc c ks xs st => exact fun r2 H2 cls d M2 S e => g r2 H2 cls d (M.trans M2) S e
  | bad => exact g
theorem Good.bnd {m : Res α} {f : α → Sto → Res γ} {Q : δ → Hp → Prop} (g : Good R rel2 rho H (m.bnd f) Wx Q) :
    Good R rel rho H m Wx (fun b H1 => ∃ rho1 st1 a, Mono rho H rho1 H1 ∧ StRep R rho1 st1 H1 ∧ rel rho1 H1 a b ∧ Good R rel2 rho1 H1 (f a st1) Wx Q) := by
  cases m with
  | ok a st => exact fun rho' H' b M S e => ⟨rho', st, a, M, S, e, Good.shift M g⟩
  | exc c ks xs st => exact g
  | bad => exact g
end

def tE (R : RC) (F : CallT) (W : WX) (m : D PV) : TE := fun sg H Q => ∃ rho st env, EnvRep R rho H env sg ∧ StRep R rho st H ∧ Good R (RepV R) rho H (m F env st) (fun cls d H' => W cls d sg H') Q
def tB2 (R : RC) (F : CallT) (W : WX) (m : D Bool) : TT := fun sg H Q => ∃ rho st env, EnvRep R rho H env sg ∧ StRep R rho st H ∧ Good R (fun _ _ (a b : Bool) => a = b) rho H (m F env st) (fun cls d H' => W cls d sg H') Q
def tL (R : RC) (F : CallT) (W : WX) (m : D (List PV)) : TA := fun sg H Q => ∃ rho st env, EnvRep R rho H env sg ∧ StRep R rho st H ∧ Good R (RepVs R) rho H (m F env st) (fun cls d H' => W cls d sg H') Q

theorem PE.weak {X : Cx} {e : Expr} {t t' : TE} (h : PE X e t) (w : ∀ sg H Q, t' sg H Q → t sg H Q) : PE X e t' := ⟨fun pins s sg H Q I q => h.run pins s sg H Q I (w sg H Q q)⟩
theorem PT.weak {X : Cx} {e : Expr} {t t' : TT} (h : PT X e t) (w : ∀ sg H Q, t' sg H Q → t sg H Q) : PT X e t' := ⟨fun pins s sg H Q I q => h.run pins s sg H Q I (w sg H Q q)⟩
theorem PW.weak {X : Cx} {e : Expr} {t t' : TT} (h : PW X e t) (w : ∀ sg H Q, t' sg H Q → t sg H Q) : PW X e t' := ⟨fun wh pins s sg H Q I q => h.run wh pins s sg H Q I (w sg H Q q)⟩
theorem PA.weak {X : Cx} {e : List Expr} {t t' : TA} (h : PA X e t) (w : ∀ sg H Q, t' sg H Q → t sg H Q) : PA X e t' := ⟨fun po pins s sg H Q I q => h.run po pins s sg H Q I (w sg H Q q)⟩
theorem PK.weak {X : Cx} {e : List Keyword} {t t' : TA} (h : PK X e t) (w : ∀ sg H Q, t' sg H Q → t sg H Q) : PK X e t' := ⟨fun po pins s sg H Q I q => h.run po pins s sg H Q I (w sg H Q q)⟩

/-! ### operations -/
def Op2Snd (R : RC) (o : Op2) (r : R2) : Prop := ∀ (rho : Rho) (st : Sto) (H : Hp) (x y : PV) (v u : V) (Wx : Value → Option Addr → Hp → Prop) (Q : VK),
  StRep R rho st H → RepV R rho H x v → RepV R rho H y u → Good R (RepV R) rho H (o x y st) Wx Q → r v u H Q
def Op1Snd (R : RC) (o : Op1) (r : V → Hp → VK → Prop) : Prop := ∀ (rho : Rho) (st : Sto) (H : Hp) (x : PV) (v : V) (Wx : Value → Option Addr → Hp → Prop) (Q : VK),
  StRep R rho st H → RepV R rho H x v → Good R (RepV R) rho H (o x st) Wx Q → r v H Q
def OpNSnd (R : RC) (o : OpN) (r : List V → Hp → VK → Prop) : Prop := ∀ (rho : Rho) (st : Sto) (H : Hp) (xs : List PV) (vs : List V) (Wx : Value → Option Addr → Hp → Prop) (Q : VK),
  StRep R rho st H → RepVs R rho H xs vs → Good R (RepV R) rho H (o xs st) Wx Q → r vs H Q
section
variable {R : RC} {F : CallT} {W : WX} {sg : St} {H : Hp} {Q : VK}
theorem te_d2 {o : Op2} {r : R2} {a b : D PV} (hs : Op2Snd R o r) (h : tE R F W (d2 o a b) sg H Q) : tOp r (tE R F W a) (tE R F W b) sg H Q := by
  obtain ⟨rho, st, env, hE, hS, g⟩ := h
  refine ⟨rho, st, env, hE, hS, (Good.bnd g).imp fun x H1 ⟨rho1, st1, a1, M1, S1, r1, g1⟩ => ?_⟩
  refine ⟨rho1, st1, env, hE.mono M1, S1, (Good.bnd g1).imp fun y H2 ⟨rho2, st2, b2, M2, S2, r2, g2⟩ => ?_⟩
  exact hs rho2 st2 H2 a1 b2 x y _ Q S2 (r1.mono M2) r2 g2
theorem te_d1 {o : Op1} {r : V → Hp → VK → Prop} {a : D PV} (hs : Op1Snd R o r) (h : tE R F W (d1 o a) sg H Q) : tUn r (tE R F W a) sg H Q := by
  obtain ⟨rho, st, env, hE, hS, g⟩ := h
  refine ⟨rho, st, env, hE, hS, (Good.bnd g).imp fun x H1 ⟨rho1, st1, a1, M1, S1, r1, g1⟩ => ?_⟩
  exact hs rho1 st1 H1 a1 x _ Q S1 r1 g1
theorem te_dN {o : OpN} {r : List V → Hp → VK → Prop} {as : List (D PV)} (hs : OpNSnd R o r) (h : tE R F W (dN o as) sg H Q) : tCB r (tL R F W (dArgs as)) sg H Q := by
  obtain ⟨rho, st, env, hE, hS, g⟩ := h
  refine ⟨rho, st, env, hE, hS, (Good.bnd g).imp fun x H1 ⟨rho1, st1, a1, M1, S1, r1, g1⟩ => ?_⟩
  exact hs rho1 st1 H1 a1 x _ Q S1 r1 g1
theorem te_K {v : PV} {u : V} (hu : ∀ rho st H, StRep R rho st H → RepV R rho H v u) (h : tE R F W (dK v) sg H Q) : tC u sg H Q := by
  obtain ⟨rho, st, env, hE, hS, g⟩ := h
  exact g rho H u (Mono.refl _ _) hS (hu rho st H hS)
theorem te_V {i : Nat} (h : tE R F W (dV i) sg H Q) : tVar i sg H Q := by
  obtain ⟨rho, st, env, hE, hS, g⟩ := h
  unfold dV at g
  split at g
  · rename_i v e
    obtain ⟨u, h1, h2⟩ := hE.at_ i v e
    exact ⟨u, h1, g rho H u (Mono.refl _ _) hS h2⟩
  · exact g.elim
theorem te_argsNil (Q : List V → Hp → Prop) (h : tL R F W (dArgs []) sg H Q) : tNil sg H Q := by
  obtain ⟨rho, st, env, hE, hS, g⟩ := h
  exact g rho H [] (Mono.refl _ _) hS (by simp [RepVs])
theorem te_argsCons {a : D PV} {r : List (D PV)} (Q : List V → Hp → Prop) (h : tL R F W (dArgs (a :: r)) sg H Q) : tCons (tE R F W a) (tL R F W (dArgs r)) sg H Q := by
  obtain ⟨rho, st, env, hE, hS, g⟩ := h
  refine ⟨rho, st, env, hE, hS, (Good.bnd g).imp fun x H1 ⟨rho1, st1, a1, M1, S1, r1, g1⟩ => ?_⟩
  refine ⟨rho1, st1, env, hE.mono M1, S1, (Good.bnd g1).imp fun ys H2 ⟨rho2, st2, b2, M2, S2, r2, g2⟩ => ?_⟩
  exact g2 rho2 H2 (x :: ys) (Mono.refl _ _) S2 (RepVs.cons (r1.mono M2) r2)
theorem te_tup {as : List (D PV)} (h : tE R F W (dTup as) sg H Q) : tTup (tL R F W (dArgs as)) sg H Q := by
  obtain ⟨rho, st, env, hE, hS, g⟩ := h
  refine ⟨rho, st, env, hE, hS, (Good.bnd g).imp fun xs H1 ⟨rho1, st1, a1, M1, S1, r1, g1⟩ => ?_⟩
  split at g1
  · rename_i hz
    refine ⟨by rw [← r1.length, sizeLine_eq]; exact hz, fun p hp => ?_⟩
    refine g1 rho1 _ (.ref p) (Mono.fresh S1 hp) (S1.fresh hp) ?_
    simp only [RepV]
    exact ⟨p, xs, rfl, ⟨upd_same, S1.deadOf hp⟩, r1.mono (Mono.fresh S1 hp)⟩
  · exact g1.elim
/-- a new list -/
theorem new_list {rho : Rho} {st : Sto} {H : Hp} {mt : Bool} {xs : List PV} {vs : List V} {Wx : Value → Option Addr → Hp → Prop} (S : StRep R rho st H) (r : RepVs R rho H xs vs) (g : Good R (RepV R) rho H (newL mt xs st) Wx Q) :
    ∀ p, H p = none → Q (.ref p) (upd H p (.lst vs)) := fun p hp => by
  cases mt with
  | true =>
    refine g (rho.push p) _ (.ref p) (Mono.push S hp) (S.push hp ⟨p, vs, get_push, upd_same, r.mono (Mono.push S hp)⟩) ?_
    simp only [RepV]
    exact ⟨p, rfl, by rw [← S.len]; simp [Rho.push], fun b hb => by rw [← S.len] at hb; have hb : (rho.cs ++ [some p])[rho.cs.length]? = some (some b) := hb; rw [get_push] at hb; cases hb; rfl⟩
  | false =>
    refine g rho _ (.ref p) (Mono.fresh S hp) (S.fresh hp) ?_
    simp only [RepV]
    exact ⟨p, vs, rfl, upd_same, S.deadOf hp, r.mono (Mono.fresh S hp)⟩
theorem te_lst {mt : Bool} {as : List (D PV)} (h : tE R F W (dLst mt as) sg H Q) : tLst (tL R F W (dArgs as)) sg H Q := by
  obtain ⟨rho, st, env, hE, hS, g⟩ := h
  refine ⟨rho, st, env, hE, hS, (Good.bnd g).imp fun xs H1 ⟨rho1, st1, a1, M1, S1, r1, g1⟩ => ?_⟩
  split at g1
  · rename_i hz
    exact ⟨by rw [← r1.length, sizeLine_eq]; exact hz, new_list S1 r1 g1⟩
  · exact g1.elim
/-- a cell taken out of the store: nothing is done -/
theorem te_frz {a : D PV} (h : tE R F W (d1 oFrz a) sg H Q) : tE R F W a sg H Q := by
  obtain ⟨rho, st, env, hE, hS, g⟩ := h
  refine ⟨rho, st, env, hE, hS, (Good.bnd g).imp fun v H1 ⟨rho1, st1, x, M1, S1, r1, g1⟩ => ?_⟩
  cases x with
  | obj n =>
    simp only [oFrz] at g1
    simp only [RepV] at r1
    obtain ⟨b, e1, ln, hu⟩ := r1
    subst e1
    split at g1
    · rename_i xs e
      obtain ⟨a, vs, ea, ha, ra⟩ := S1.cell n _ e
      have hb := hu a ea
      subst hb
      refine g1 (rho1.kill n) H1 (.ref a) (Mono.kill S1 ea) (S1.kill ea) ?_
      simp only [RepV]
      exact ⟨a, vs, rfl, ha, S1.killed ea, ra.mono (Mono.kill S1 ea)⟩
    · rename_i c ks xs e
      obtain ⟨a, dx, vs, ea, ha, la, ra⟩ := S1.cell n _ e
      have hb := hu a ea
      subst hb
      refine g1 (rho1.kill n) H1 (.ref a) (Mono.kill S1 ea) (S1.kill ea) ?_
      simp only [RepV]
      exact ⟨a, dx, vs, rfl, ha, S1.killed ea, la, ra.mono (Mono.kill S1 ea)⟩
    · exact g1.elim
  | _ => exact g1.elim
end

/-! ### reading -/
section
variable {R : RC} {rho : Rho} {st : Sto} {H : Hp}
theorem obj_list (S : StRep R rho st H) {n : Nat} {v : V} {xs : List PV} (r : RepV R rho H (.obj n) v) (e : st[n]? = some (.lst xs)) : ∃ a vs, v = .ref a ∧ rho.cs[n]? = some (some a) ∧ H a = some (.lst vs) ∧ RepVs R rho H xs vs := by
  simp only [RepV] at r
  obtain ⟨b, e1, ln, hu⟩ := r
  obtain ⟨a, vs, ea, ha, ra⟩ := S.cell n _ e
  have hb := hu a ea
  subst hb
  exact ⟨a, vs, e1, ea, ha, ra⟩
theorem obj_ins (S : StRep R rho st H) {n : Nat} {v : V} {c : Nat} {ks : List Nat} {xs : List PV} (r : RepV R rho H (.obj n) v) (e : st[n]? = some (.ins c ks xs)) :
    ∃ a dx vs, v = .ref a ∧ rho.cs[n]? = some (some a) ∧ H a = some (.ins (R.cA c) dx ((ks.map R.aN).zip vs)) ∧ ks.length = xs.length ∧ RepVs R rho H xs vs := by
  simp only [RepV] at r
  obtain ⟨b, e1, ln, hu⟩ := r
  obtain ⟨a, dx, vs, ea, ha, la, ra⟩ := S.cell n _ e
  have hb := hu a ea
  subst hb
  exact ⟨a, dx, vs, e1, ea, ha, la, ra⟩
theorem listOf_ok (S : StRep R rho st H) {x : PV} {v : V} {xs : List PV} (r : RepV R rho H x v) (e : listOf st x = some xs) : ∃ a vs, v = .ref a ∧ SqL R.K H a vs ∧ RepVs R rho H xs vs := by
  unfold listOf at e
  split at e
  · cases e
    simp only [RepV] at r
    obtain ⟨a, vs, e1, h1, _, h2⟩ := r
    exact ⟨a, vs, e1, .inl (.inl h1), h2⟩
  · cases e
    simp only [RepV] at r
    obtain ⟨a, vs, e1, h1, h2⟩ := r
    exact ⟨a, vs, e1, h1.sq, h2⟩
  · split at e
    · rename_i e2
      cases e
      obtain ⟨a, vs, e1, _, h1, h2⟩ := obj_list S r e2
      exact ⟨a, vs, e1, .inl (.inl h1), h2⟩
    · cases e
  · cases e
theorem seqOf_ok (S : StRep R rho st H) {x : PV} {v : V} {xs : List PV} (r : RepV R rho H x v) (e : seqOf st x = some xs) : ∃ a vs, v = .ref a ∧ (SqL R.K H a vs ∨ SqT R.K H a vs) ∧ RepVs R rho H xs vs := by
  unfold seqOf at e
  split at e
  · cases e
    simp only [RepV] at r
    obtain ⟨a, vs, e1, h1, h2⟩ := r
    exact ⟨a, vs, e1, .inr h1.sq, h2⟩
  · cases e
    simp only [RepV] at r
    obtain ⟨a, vs, e1, h1, h2⟩ := r
    exact ⟨a, vs, e1, .inr (.inr h1), h2⟩
  · cases e
    simp only [RepV] at r
    obtain ⟨a, vs, e1, h1, _, h2⟩ := r
    exact ⟨a, vs, e1, .inl (.inl (.inl h1)), h2⟩
  · cases e
    simp only [RepV] at r
    obtain ⟨a, vs, e1, h1, h2⟩ := r
    exact ⟨a, vs, e1, .inl h1.sq, h2⟩
  · split at e
    · rename_i e2
      cases e
      obtain ⟨a, vs, e1, _, h1, h2⟩ := obj_list S r e2
      exact ⟨a, vs, e1, .inl (.inl (.inl h1)), h2⟩
    · cases e
  · cases e
theorem truth_ok (S : StRep R rho st H) {x : PV} {v : V} {b : Bool} (r : RepV R rho H x v) (e : truth st x = some b) : TruV R.K v H b := by
  cases x with
  | non => simp only [RepV] at r; subst r; simp only [truth] at e; cases e; rfl
  | bl c => simp only [RepV] at r; subst r; simp only [truth] at e; cases e; rfl
  | int i => simp only [RepV] at r; subst r; simp only [truth] at e; cases e; rfl
  | str z =>
    simp only [RepV] at r; subst r; simp only [truth] at e
    split at e
    · rename_i hz
      cases e
      exact ⟨by rw [sizeLine_eq]; exact hz, rfl⟩
    · cases e
  | tup xs =>
    simp only [truth] at e; cases e
    simp only [RepV] at r
    obtain ⟨a, vs, e1, h1, h2⟩ := r
    subst e1
    refine .inr (.inl ⟨vs, h1.sq, ?_⟩)
    have := h2.length
    cases xs <;> cases vs <;> simp_all
  | kt xs =>
    simp only [truth] at e; cases e
    simp only [RepV] at r
    obtain ⟨a, vs, e1, h1, h2⟩ := r
    subst e1
    refine .inr (.inl ⟨vs, .inr h1, ?_⟩)
    have := h2.length
    cases xs <;> cases vs <;> simp_all
  | lv xs =>
    simp only [truth] at e; cases e
    simp only [RepV] at r
    obtain ⟨a, vs, e1, h1, _, h2⟩ := r
    subst e1
    refine .inl ⟨vs, .inl (.inl h1), ?_⟩
    have := h2.length
    cases xs <;> cases vs <;> simp_all
  | fl xs =>
    simp only [truth] at e; cases e
    simp only [RepV] at r
    obtain ⟨a, vs, e1, h1, h2⟩ := r
    subst e1
    refine .inl ⟨vs, h1.sq, ?_⟩
    have := h2.length
    cases xs <;> cases vs <;> simp_all
  | obj n =>
    simp only [truth] at e
    split at e
    · rename_i xs e2
      cases e
      obtain ⟨a, vs, e1, _, h1, h2⟩ := obj_list S r e2
      subst e1
      refine .inl ⟨vs, .inl (.inl h1), ?_⟩
      have := h2.length
      cases xs <;> cases vs <;> simp_all
    · cases e
  | _ => simp only [truth] at e; cases e
end
/-- a bool comes -/
theorem fin_b {R : RC} {rho : Rho} {st : Sto} {H : Hp} {b : Bool} {Wx : Value → Option Addr → Hp → Prop} {Q : VK} (S : StRep R rho st H) (g : Good R (RepV R) rho H (.ok (.bl b) st) Wx Q) : Q (.bl b) H := g rho H (.bl b) (Mono.refl _ _) S (by simp only [RepV])
theorem fin_i {R : RC} {rho : Rho} {st : Sto} {H : Hp} {b : Int} {Wx : Value → Option Addr → Hp → Prop} {Q : VK} (S : StRep R rho st H) (g : Good R (RepV R) rho H (.ok (.int b) st) Wx Q) : Q (.int b) H := g rho H (.int b) (Mono.refl _ _) S (by simp only [RepV])
theorem fin_s {R : RC} {rho : Rho} {st : Sto} {H : Hp} {b : Str} {Wx : Value → Option Addr → Hp → Prop} {Q : VK} (S : StRep R rho st H) (g : Good R (RepV R) rho H (.ok (.str b) st) Wx Q) : Q (.str b) H := g rho H (.str b) (Mono.refl _ _) S (by simp only [RepV])
theorem fin_v {R : RC} {rho : Rho} {st : Sto} {H : Hp} {x : PV} {v : V} {Wx : Value → Option Addr → Hp → Prop} {Q : VK} (S : StRep R rho st H) (r : RepV R rho H x v) (g : Good R (RepV R) rho H (.ok x st) Wx Q) : Q v H := g rho H v (Mono.refl _ _) S r
theorem fin_lv {R : RC} {rho : Rho} {st : Sto} {H : Hp} {xs : List PV} {vs : List V} {Wx : Value → Option Addr → Hp → Prop} {Q : VK} (S : StRep R rho st H) (r : RepVs R rho H xs vs) (g : Good R (RepV R) rho H (.ok (.lv xs) st) Wx Q) : ∀ p, H p = none → Q (.ref p) (upd H p (.lst vs)) :=
  new_list (mt := false) S r g
theorem fin_tup {R : RC} {rho : Rho} {st : Sto} {H : Hp} {xs : List PV} {vs : List V} {Wx : Value → Option Addr → Hp → Prop} {Q : VK} (S : StRep R rho st H) (r : RepVs R rho H xs vs) (g : Good R (RepV R) rho H (.ok (.tup xs) st) Wx Q) : ∀ p, H p = none → Q (.ref p) (upd H p (.tup vs)) := fun p hp => by
  refine g rho _ (.ref p) (Mono.fresh S hp) (S.fresh hp) ?_
  simp only [RepV]
  exact ⟨p, vs, rfl, ⟨upd_same, S.deadOf hp⟩, r.mono (Mono.fresh S hp)⟩

/-! ### arithmetic -/
abbrev rPlus (K : PySem.W.Frag) : R2 := fun x y H Q => rI0 (fun i j => .int (i + j)) x y H Q ∨ (∃ i j, x = .str i ∧ y = .str j ∧ i.length + j.length ≤ sizeLine ∧ Q (.str (i ++ j)) H) ∨ rCatA K x y H Q ∨ rCat x y H Q
theorem or_plus {X : Cx} : OpR X (binaryOp .Add) (rPlus X.K) := OpR.or op_add (OpR.or op_add_str (OpR.or op_catA op_cat))
theorem snd_add {R : RC} : Op2Snd R oAdd (rPlus R.K) := by
  intro rho st H x y v u Wx Q S rx ry g
  unfold oAdd at g
  split at g
  · simp only [RepV] at rx ry; subst rx; subst ry
    exact .inl ⟨_, _, rfl, rfl, fin_i S g⟩
  · simp only [RepV] at rx ry; subst rx; subst ry
    split at g
    · rename_i hz
      exact .inr (.inl ⟨_, _, rfl, rfl, by rw [sizeLine_eq]; exact hz, fin_s S g⟩)
    · exact g.elim
  · split at g
    · rename_i xs ys hz
      simp only [RepV] at rx ry
      obtain ⟨a, vs, e1, t1, r1⟩ := rx
      obtain ⟨b, us, e2, t2, r2⟩ := ry
      subst e1; subst e2
      have l1 := r1.length
      have l2 := r2.length
      refine .inr (.inr (.inl ⟨a, b, vs, us, rfl, rfl, t1.sq, t2.sq, by rw [sizeLine_eq, ← l1, ← l2]; exact hz, fun e => ?_, fun _ e => ?_, fun _ _ => fin_tup S (r1.append r2) g⟩))
      · subst e
        have : xs = [] := List.length_eq_zero_iff.mp l1
        subst this
        exact g rho H (.ref b) (Mono.refl _ _) S (by simp only [RepV, List.nil_append]; exact ⟨b, us, rfl, t2, r2⟩)
      · subst e
        have : ys = [] := List.length_eq_zero_iff.mp l2
        subst this
        exact g rho H (.ref a) (Mono.refl _ _) S (by simp only [RepV, List.append_nil]; exact ⟨a, vs, rfl, t1, r1⟩)
    · exact g.elim
  · split at g
    · rename_i xs ys _ hz
      simp only [RepV] at rx ry
      obtain ⟨a, vs, e1, t1, _, r1⟩ := rx
      obtain ⟨b, us, e2, t2, _, r2⟩ := ry
      subst e1; subst e2
      exact .inr (.inr (.inr ⟨a, b, vs, us, rfl, rfl, t1, t2, by rw [sizeLine_eq, ← r1.length, ← r2.length]; exact hz, fin_lv S (r1.append r2) g⟩))
    · exact g.elim
  · split at g
    · rename_i e
      split at g
      · rename_i hz
        simp only [RepV] at rx
        obtain ⟨a, vs, e1, t1, _, r1⟩ := rx
        obtain ⟨b, us, e2, _, t2, r2⟩ := obj_list S ry e
        subst e1; subst e2
        exact .inr (.inr (.inr ⟨a, b, vs, us, rfl, rfl, t1, t2, by rw [sizeLine_eq, ← r1.length, ← r2.length]; exact hz, fin_lv S (r1.append r2) g⟩))
      · exact g.elim
    · exact g.elim
  · split at g
    · rename_i e
      split at g
      · rename_i hz
        simp only [RepV] at ry
        obtain ⟨b, us, e2, t2, _, r2⟩ := ry
        obtain ⟨a, vs, e1, _, t1, r1⟩ := obj_list S rx e
        subst e1; subst e2
        exact .inr (.inr (.inr ⟨a, b, vs, us, rfl, rfl, t1, t2, by rw [sizeLine_eq, ← r1.length, ← r2.length]; exact hz, fin_lv S (r1.append r2) g⟩))
      · exact g.elim
    · exact g.elim
  · split at g
    · rename_i e e'
      split at g
      · rename_i hz
        obtain ⟨a, vs, e1, _, t1, r1⟩ := obj_list S rx e
        obtain ⟨b, us, e2, _, t2, r2⟩ := obj_list S ry e'
        subst e1; subst e2
        exact .inr (.inr (.inr ⟨a, b, vs, us, rfl, rfl, t1, t2, by rw [sizeLine_eq, ← r1.length, ← r2.length]; exact hz, fin_lv S (r1.append r2) g⟩))
      · exact g.elim
    · exact g.elim
  · exact g.elim
theorem listC_ok {R : RC} {rho : Rho} {st : Sto} {H : Hp} (S : StRep R rho st H) {x : PV} {v : V} {xs : List PV} (r : RepV R rho H x v) (e : listC st x = some xs) : ∃ a vs, v = .ref a ∧ H a = some (.lst vs) ∧ RepVs R rho H xs vs := by
  cases x with
  | lv ys =>
    simp only [listC] at e
    cases e
    simp only [RepV] at r
    obtain ⟨a, vs, e1, t1, _, r1⟩ := r
    exact ⟨a, vs, e1, t1, r1⟩
  | obj n =>
    simp only [listC] at e
    split at e
    · rename_i en
      cases e
      obtain ⟨a, vs, e1, _, t1, r1⟩ := obj_list S r en
      exact ⟨a, vs, e1, t1, r1⟩
    · cases e
  | _ => simp only [listC] at e; cases e
theorem snd_addM {R : RC} : Op2Snd R oAddM (rPlus R.K) := by
  intro rho st H x y v u Wx Q S rx ry g
  unfold oAddM at g
  split at g
  · rename_i xs ys e1 e2
    split at g
    · rename_i hz
      obtain ⟨a, vs, q1, t1, r1⟩ := listC_ok S rx e1
      obtain ⟨b, us, q2, t2, r2⟩ := listC_ok S ry e2
      subst q1; subst q2
      exact .inr (.inr (.inr ⟨a, b, vs, us, rfl, rfl, t1, t2, by rw [sizeLine_eq, ← r1.length, ← r2.length]; exact hz, new_list S (r1.append r2) g⟩))
    · exact g.elim
  · exact g.elim
theorem snd_sub {R : RC} : Op2Snd R oSub (rI0 fun i j => .int (i - j)) := by
  intro rho st H x y v u Wx Q S rx ry g
  unfold oSub at g
  split at g
  · simp only [RepV] at rx ry; subst rx; subst ry
    exact ⟨_, _, rfl, rfl, fin_i S g⟩
  · exact g.elim
theorem RepVs.rep {R : RC} {rho : Rho} {H : Hp} {xs : List PV} {vs : List V} (r : RepVs R rho H xs vs) : ∀ n : Nat, RepVs R rho H (List.replicate n xs).flatten (List.replicate n vs).flatten
  | 0 => by simp [RepVs]
  | n + 1 => by
    rw [List.replicate_succ, List.replicate_succ, List.flatten_cons, List.flatten_cons]
    exact r.append (RepVs.rep r n)
theorem or_mul {X : Cx} : OpR X (binaryOp .Mult) (fun x y H Q => rI CMul (fun i j => .int (i * j)) x y H Q ∨ rRep x y H Q) := OpR.or op_mul op_rep
theorem snd_mul {R : RC} : Op2Snd R oMul (fun x y H Q => rI CMul (fun i j => .int (i * j)) x y H Q ∨ rRep x y H Q) := by
  intro rho st H x y v u Wx Q S rx ry g
  unfold oMul at g
  split at g
  · split at g
    · rename_i hz
      simp only [RepV] at rx ry; subst rx; subst ry
      refine .inl ⟨_, _, rfl, rfl, ?_, fin_i S g⟩
      unfold small at hz
      simp only [Bool.or_eq_true, Bool.and_eq_true, decide_eq_true_eq] at hz
      exact hz
    · exact g.elim
  · split at g
    · rename_i hz
      simp only [RepV] at rx ry; subst ry
      obtain ⟨a, vs, e1, t1, d1, r1⟩ := rx
      subst e1
      exact .inr ⟨a, _, vs, rfl, rfl, t1, hz.1, hz.2.1, by rw [sizeLine_eq, ← r1.length]; exact hz.2.2, fin_lv S (r1.rep _) g⟩
    · exact g.elim
  · exact g.elim
theorem snd_fdiv {R : RC} : Op2Snd R oFdiv (rI CDiv fun i j => .int (i / j)) := by
  intro rho st H x y v u Wx Q S rx ry g
  unfold oFdiv at g
  split at g
  · split at g
    · rename_i hz
      simp only [RepV] at rx ry; subst rx; subst ry
      exact ⟨_, _, rfl, rfl, hz, fin_i S g⟩
    · exact g.elim
  · exact g.elim
theorem snd_mod {R : RC} : Op2Snd R oMod (rI (fun _ j => 0 < j) fun i j => .int (i % j)) := by
  intro rho st H x y v u Wx Q S rx ry g
  unfold oMod at g
  split at g
  · split at g
    · rename_i hz
      simp only [RepV] at rx ry; subst rx; subst ry
      exact ⟨_, _, rfl, rfl, hz, fin_i S g⟩
    · exact g.elim
  · exact g.elim
theorem snd_pow {R : RC} : Op2Snd R oPow (rI CPow fun i j => .int (i ^ j.toNat)) := by
  intro rho st H x y v u Wx Q S rx ry g
  unfold oPow at g
  split at g
  · split at g
    · rename_i hz
      simp only [RepV] at rx ry; subst rx; subst ry
      exact ⟨_, _, rfl, rfl, hz, fin_i S g⟩
    · exact g.elim
  · exact g.elim
theorem snd_neg {R : RC} : Op1Snd R oNeg (rU fun i => .int (-i)) := by
  intro rho st H x v Wx Q S rx g
  unfold oNeg at g
  split at g
  · simp only [RepV] at rx; subst rx
    exact ⟨_, rfl, fin_i S g⟩
  · exact g.elim
end OL
set_option maxRecDepth 100000
set_option maxHeartbeats 0
/-! ## soundness: comparisons, tests, items -/
namespace OL
open PySem L2

section
variable {R : RC} {rho : Rho} {st : Sto} {H : Hp}
theorem mapO_some {α β : Type} {f : α → Option β} {x : α} {r : List α} {zs : List β} (e : mapO f (x :: r) = some zs) : ∃ y ys, f x = some y ∧ mapO f r = some ys ∧ zs = y :: ys := by
  simp only [mapO] at e
  split at e
  · rename_i y ys h1 h2
    cases e
    exact ⟨y, ys, h1, h2, rfl⟩
  · cases e
theorem deepAll_ok {f : PV → Option PyData} (hf : ∀ x v d, RepV R rho H x v → f x = some d → Dp R.K H v d) : ∀ {xs : List PV} {vs : List V} {ds : List PyData}, RepVs R rho H xs vs → mapO f xs = some ds → DpAll R.K H vs ds
  | [], vs, ds, h, e => by
    simp only [RepVs] at h; subst h
    simp only [mapO] at e; cases e
    exact .nil
  | x :: xs, vs, ds, h, e => by
    simp only [RepVs] at h
    obtain ⟨v, r, ev, h1, h2⟩ := h
    subst ev
    obtain ⟨y, ys, e1, e2, e3⟩ := mapO_some e
    subst e3
    exact .cons (hf x v y h1 e1) (deepAll_ok hf h2 e2)
theorem deep_ok (S : StRep R rho st H) : ∀ (n : Nat) (x : PV) (v : V) (d : PyData), RepV R rho H x v → deep st n x = some d → Dp R.K H v d
  | 0, x, v, d, r, e => by simp only [deep] at e; cases e
  | n + 1, x, v, d, r, e => by
    have ih := deep_ok S n
    cases x with
    | non => simp only [RepV] at r; subst r; simp only [deep] at e; cases e; exact .non
    | bl b => simp only [RepV] at r; subst r; simp only [deep] at e; cases e; exact .bl b
    | int b => simp only [RepV] at r; subst r; simp only [deep] at e; cases e; exact .int b
    | str b => simp only [RepV] at r; subst r; simp only [deep] at e; cases e; exact .str b
    | tup xs =>
      simp only [deep] at e
      obtain ⟨ds, e1, e2⟩ := Option.map_eq_some_iff.mp e
      subst e2
      simp only [RepV] at r
      obtain ⟨a, vs, ev, t, rs⟩ := r
      subst ev
      exact .tup t.sq (deepAll_ok ih rs e1)
    | kt xs =>
      simp only [deep] at e
      obtain ⟨ds, e1, e2⟩ := Option.map_eq_some_iff.mp e
      subst e2
      simp only [RepV] at r
      obtain ⟨a, vs, ev, t, rs⟩ := r
      subst ev
      exact .tup (.inr t) (deepAll_ok ih rs e1)
    | lv xs =>
      simp only [deep] at e
      obtain ⟨ds, e1, e2⟩ := Option.map_eq_some_iff.mp e
      subst e2
      simp only [RepV] at r
      obtain ⟨a, vs, ev, t, _, rs⟩ := r
      subst ev
      exact .lst (.inl (.inl t)) (deepAll_ok ih rs e1)
    | fl xs =>
      simp only [deep] at e
      obtain ⟨ds, e1, e2⟩ := Option.map_eq_some_iff.mp e
      subst e2
      simp only [RepV] at r
      obtain ⟨a, vs, ev, t, rs⟩ := r
      subst ev
      exact .lst t.sq (deepAll_ok ih rs e1)
    | obj k =>
      simp only [deep] at e
      split at e
      · rename_i xs ek
        obtain ⟨ds, e1, e2⟩ := Option.map_eq_some_iff.mp e
        subst e2
        obtain ⟨a, vs, ev, _, t, rs⟩ := obj_list S r ek
        subst ev
        exact .lst (.inl (.inl t)) (deepAll_ok ih rs e1)
      · cases e
    | _ => simp only [deep] at e; cases e
theorem eqData_ok (S : StRep R rho st H) {x y : PV} {v u : V} {b : Bool} (rx : RepV R rho H x v) (ry : RepV R rho H y u) (e : eqData st x y = some b) :
    (scal v u = true ∧ b = decide (v = u)) ∨ ∃ d e', Dp R.K H v d ∧ Dp R.K H u e' ∧ SeqAt.shaped d = true ∧ SeqAt.shaped e' = true ∧ b = PyData.eqv d e' := by
  unfold eqData at e
  split at e
  · simp only [RepV] at rx ry; subst rx; subst ry; cases e; exact .inl ⟨rfl, by simp⟩
  · simp only [RepV] at rx ry; subst rx; subst ry; cases e; exact .inl ⟨rfl, by simp⟩
  · simp only [RepV] at rx ry; subst rx; subst ry; cases e; exact .inl ⟨rfl, by simp⟩
  · simp only [RepV] at rx ry; subst rx; subst ry; cases e; exact .inl ⟨rfl, by simp⟩
  · simp only [RepV] at rx ry; subst rx; subst ry; cases e; exact .inl ⟨rfl, by simp⟩
  · simp only [RepV] at rx ry; subst rx; subst ry; cases e; exact .inl ⟨rfl, by simp⟩
  · simp only [RepV] at rx ry; subst rx; subst ry; cases e; exact .inl ⟨rfl, by simp⟩
  · simp only [RepV] at rx ry; subst rx; subst ry; cases e; exact .inl ⟨rfl, by simp⟩
  · simp only [RepV] at rx ry; subst rx; subst ry; cases e; exact .inl ⟨rfl, by simp⟩
  · simp only [RepV] at rx ry; subst rx; subst ry; cases e; exact .inl ⟨rfl, by simp⟩
  · simp only [RepV] at rx ry; subst rx; subst ry; cases e; exact .inl ⟨rfl, by simp⟩
  · simp only [RepV] at rx ry; subst rx; subst ry; cases e; exact .inl ⟨rfl, by simp⟩
  · simp only [RepV] at rx ry; subst rx; subst ry; cases e; exact .inl ⟨rfl, by simp⟩
  · simp only [RepV] at rx ry; subst rx; subst ry; cases e; exact .inl ⟨rfl, by simp⟩
  · split at e
    · rename_i d e' h1 h2
      split at e
      · rename_i hs
        cases e
        obtain ⟨s1, s2⟩ := Bool.and_eq_true_iff.mp hs
        exact .inr ⟨d, e', deep_ok S _ _ _ _ rx h1, deep_ok S _ _ _ _ ry h2, s1, s2, rfl⟩
      · cases e
    · cases e
end
abbrev rEqAll (K : PySem.W.Frag) : R2 := fun x y H Q => rEq x y H Q ∨ rEqD K x y H Q
abbrev rNeAll (K : PySem.W.Frag) : R2 := fun x y H Q => rNe x y H Q ∨ rNeD K x y H Q
theorem or_eq {X : Cx} (hu : X.A.units + 64 < cLine) : OpR X (compareOp .Eq) (rEqAll X.K) := OpR.or op_eq (op_eqD hu)
theorem or_ne {X : Cx} (hu : X.A.units + 64 < cLine) : OpR X (compareOp .NotEq) (rNeAll X.K) := OpR.or op_ne (op_neD hu)
theorem snd_eq {R : RC} : Op2Snd R oEq (rEqAll R.K) := by
  intro rho st H x y v u Wx Q S rx ry g
  unfold oEq at g
  split at g
  · rename_i b e
    rcases eqData_ok S rx ry e with ⟨h1, h2⟩ | ⟨d, e', h1, h2, h3, h4, h5⟩
    · exact .inl ⟨h1, by rw [← h2]; exact fin_b S g⟩
    · exact .inr ⟨d, e', h1, h2, h3, h4, by rw [← h5]; exact fin_b S g⟩
  · exact g.elim
theorem snd_ne {R : RC} : Op2Snd R oNe (rNeAll R.K) := by
  intro rho st H x y v u Wx Q S rx ry g
  unfold oNe at g
  split at g
  · rename_i b e
    rcases eqData_ok S rx ry e with ⟨h1, h2⟩ | ⟨d, e', h1, h2, h3, h4, h5⟩
    · exact .inl ⟨h1, by rw [← h2]; exact fin_b S g⟩
    · exact .inr ⟨d, e', h1, h2, h3, h4, by rw [← h5]; exact fin_b S g⟩
  · exact g.elim
abbrev rOrd (p : Int → Int → Bool) (q : Str → Str → Bool) : R2 := fun x y H Q => rI0 (fun i j => .bl (p i j)) x y H Q ∨ ∃ i j, x = .str i ∧ y = .str j ∧ Q (.bl (q i j)) H
theorem or_lt {X : Cx} : OpR X (compareOp .Lt) (rOrd (fun i j => decide (i < j)) fun a b => decide (a.cps.toList < b.cps.toList)) := OpR.or op_lt op_lt_str
theorem or_le {X : Cx} : OpR X (compareOp .LtE) (rOrd (fun i j => decide (i ≤ j)) fun a b => !decide (b.cps.toList < a.cps.toList)) := OpR.or op_le op_le_str
theorem or_gt {X : Cx} : OpR X (compareOp .Gt) (rOrd (fun i j => decide (j < i)) fun a b => decide (b.cps.toList < a.cps.toList)) := OpR.or op_gt op_gt_str
theorem or_ge {X : Cx} : OpR X (compareOp .GtE) (rOrd (fun i j => decide (j ≤ i)) fun a b => !decide (a.cps.toList < b.cps.toList)) := OpR.or op_ge op_ge_str
theorem snd_lt {R : RC} : Op2Snd R oLt (rOrd (fun i j => decide (i < j)) fun a b => decide (a.cps.toList < b.cps.toList)) := by
  intro rho st H x y v u Wx Q S rx ry g
  unfold oLt at g
  split at g
  · simp only [RepV] at rx ry; subst rx; subst ry; exact .inl ⟨_, _, rfl, rfl, fin_b S g⟩
  · simp only [RepV] at rx ry; subst rx; subst ry; exact .inr ⟨_, _, rfl, rfl, fin_b S g⟩
  · exact g.elim
theorem snd_le {R : RC} : Op2Snd R oLe (rOrd (fun i j => decide (i ≤ j)) fun a b => !decide (b.cps.toList < a.cps.toList)) := by
  intro rho st H x y v u Wx Q S rx ry g
  unfold oLe at g
  split at g
  · simp only [RepV] at rx ry; subst rx; subst ry; exact .inl ⟨_, _, rfl, rfl, fin_b S g⟩
  · simp only [RepV] at rx ry; subst rx; subst ry; exact .inr ⟨_, _, rfl, rfl, fin_b S g⟩
  · exact g.elim
theorem snd_gt {R : RC} : Op2Snd R oGt (rOrd (fun i j => decide (j < i)) fun a b => decide (b.cps.toList < a.cps.toList)) := by
  intro rho st H x y v u Wx Q S rx ry g
  unfold oGt at g
  split at g
  · simp only [RepV] at rx ry; subst rx; subst ry; exact .inl ⟨_, _, rfl, rfl, fin_b S g⟩
  · simp only [RepV] at rx ry; subst rx; subst ry; exact .inr ⟨_, _, rfl, rfl, fin_b S g⟩
  · exact g.elim
theorem snd_ge {R : RC} : Op2Snd R oGe (rOrd (fun i j => decide (j ≤ i)) fun a b => !decide (a.cps.toList < b.cps.toList)) := by
  intro rho st H x y v u Wx Q S rx ry g
  unfold oGe at g
  split at g
  · simp only [RepV] at rx ry; subst rx; subst ry; exact .inl ⟨_, _, rfl, rfl, fin_b S g⟩
  · simp only [RepV] at rx ry; subst rx; subst ry; exact .inr ⟨_, _, rfl, rfl, fin_b S g⟩
  · exact g.elim
/-! ### in -/
section
variable {R : RC} {rho : Rho} {st : Sto} {H : Hp}
theorem flat_ok {x : PV} {v : V} (r : RepV R rho H x v) (f : flatP x = true) : flatV v = true := by
  cases x <;> first
    | (simp only [RepV] at r; subst r; rfl)
    | exact absurd (show false = true from f) Bool.false_ne_true
theorem eqP_ok {x y : PV} {v u : V} (rx : RepV R rho H x v) (ry : RepV R rho H y u) (fx : flatP x = true) (fy : flatP y = true) : eqV v u = eqP x y := by
  cases x <;> first
    | exact absurd (show false = true from fx) Bool.false_ne_true
    | (cases y <;> first
      | exact absurd (show false = true from fy) Bool.false_ne_true
      | (simp only [RepV] at rx ry; subst rx; subst ry; rfl))
theorem any_ok {x : PV} {v : V} (rx : RepV R rho H x v) (fx : flatP x = true) : ∀ {ys : List PV} {us : List V}, RepVs R rho H ys us → ys.all flatP = true → us.all flatV = true ∧ inV v us = ys.any fun z => eqP z x
  | [], us, h, _ => by simp only [RepVs] at h; subst h; exact ⟨rfl, rfl⟩
  | y :: ys, us, h, f => by
    simp only [RepVs] at h
    obtain ⟨u, r, e, h1, h2⟩ := h
    subst e
    simp only [List.all_cons, Bool.and_eq_true] at f
    obtain ⟨i1, i2⟩ := any_ok rx fx h2 f.2
    refine ⟨by simp only [List.all_cons, Bool.and_eq_true]; exact ⟨flat_ok h1 f.1, i1⟩, ?_⟩
    unfold inV at i2 ⊢
    simp only [List.any_cons]
    rw [i2, eqP_ok h1 rx f.1 fx]
theorem isIn_ok (S : StRep R rho st H) {x y : PV} {v u : V} {b : Bool} (rx : RepV R rho H x v) (ry : RepV R rho H y u) (e : isIn st x y = some b) :
    (∃ i j, v = .str i ∧ u = .str j ∧ b = !(Builtin.Str.occurrences j i 0 j.length 1).isEmpty) ∨ (∃ p xs, u = .ref p ∧ (SqL R.K H p xs ∨ SqT R.K H p xs) ∧ flatV v = true ∧ xs.all flatV = true ∧ b = inV v xs) ∨
      ∃ d ds, Dp R.K H v d ∧ Dp R.K H u (.list ds) ∧ SeqAt.shaped d = true ∧ SeqAt.shaped (.list ds) = true ∧ b = ds.any fun z => PyData.eqv z d := by
  unfold isIn at e
  split at e
  · cases e
    simp only [RepV] at rx ry; subst rx; subst ry
    exact .inl ⟨_, _, rfl, rfl, rfl⟩
  · split at e
    · rename_i ys hs
      split at e
      · rename_i hf
        cases e
        obtain ⟨f1, f2⟩ := Bool.and_eq_true_iff.mp hf
        obtain ⟨a, vs, e1, h1, h2⟩ := seqOf_ok S ry hs
        obtain ⟨i1, i2⟩ := any_ok rx f1 h2 f2
        exact .inr (.inl ⟨a, vs, e1, h1, flat_ok rx f1, i1, i2.symm⟩)
      · split at e
        · rename_i d ds e1 e2
          split at e
          · rename_i hs2
            cases e
            obtain ⟨s1, s2⟩ := Bool.and_eq_true_iff.mp hs2
            exact .inr (.inr ⟨d, ds, deep_ok S _ _ _ _ rx e1, deep_ok S _ _ _ _ ry e2, s1, s2, rfl⟩)
          · cases e
        · cases e
    · cases e
end
abbrev rInAll (K : PySem.W.Frag) : R2 := fun x y H Q => (∃ i j, x = .str i ∧ y = .str j ∧ Q (.bl (!(Builtin.Str.occurrences j i 0 j.length 1).isEmpty)) H) ∨ rIn K false x y H Q ∨ rInD K x y H Q
abbrev rNotInAll (K : PySem.W.Frag) : R2 := fun x y H Q => (∃ i j, x = .str i ∧ y = .str j ∧ Q (.bl (!(!(Builtin.Str.occurrences j i 0 j.length 1).isEmpty))) H) ∨ rIn K true x y H Q ∨ rNotInD K x y H Q
theorem or_in {X : Cx} (hu : X.A.units + 65 < cLine) : OpR X (compareOp .In) (rInAll X.K) := OpR.or op_in_str (OpR.or op_in_seq (op_inD hu))
theorem or_notIn {X : Cx} (hu : X.A.units + 65 < cLine) : OpR X (compareOp .NotIn) (rNotInAll X.K) := OpR.or op_notin_str (OpR.or op_notIn_seq (op_notInD hu))
theorem snd_in {R : RC} : Op2Snd R oIn (rInAll R.K) := by
  intro rho st H x y v u Wx Q S rx ry g
  unfold oIn at g
  split at g
  · rename_i b e
    rcases isIn_ok S rx ry e with ⟨i, j, h1, h2, h3⟩ | ⟨p, xs, h1, h2, h3, h4, h5⟩ | ⟨d, ds, h1, h2, h3, h4, h5⟩
    · exact .inl ⟨i, j, h1, h2, by rw [← h3]; exact fin_b S g⟩
    · exact .inr (.inl ⟨p, xs, h1, h2, h3, h4, by rw [h5] at g; exact fin_b S g⟩)
    · exact .inr (.inr ⟨d, ds, h1, h2, h3, h4, by rw [h5] at g; exact fin_b S g⟩)
  · exact g.elim
theorem snd_notIn {R : RC} : Op2Snd R oNotIn (rNotInAll R.K) := by
  intro rho st H x y v u Wx Q S rx ry g
  unfold oNotIn at g
  split at g
  · rename_i b e
    rcases isIn_ok S rx ry e with ⟨i, j, h1, h2, h3⟩ | ⟨p, xs, h1, h2, h3, h4, h5⟩ | ⟨d, ds, h1, h2, h3, h4, h5⟩
    · exact .inl ⟨i, j, h1, h2, by rw [← h3]; exact fin_b S g⟩
    · exact .inr (.inl ⟨p, xs, h1, h2, h3, h4, by rw [h5] at g; exact fin_b S g⟩)
    · exact .inr (.inr ⟨d, ds, h1, h2, h3, h4, by rw [h5] at g; exact fin_b S g⟩)
  · exact g.elim
theorem non_iff {R : RC} {rho : Rho} {H : Hp} {x : PV} {v : V} (r : RepV R rho H x v) (h : x ≠ .non) : v ≠ .non := by
  cases x with
  | non => exact absurd rfl h
  | bl b => simp only [RepV] at r; subst r; simp
  | int b => simp only [RepV] at r; subst r; simp
  | str b => simp only [RepV] at r; subst r; simp
  | ty b => simp only [RepV] at r; subst r; simp
  | cls b => simp only [RepV] at r; subst r; simp
  | fn b => simp only [RepV] at r; subst r; simp
  | tup b => simp only [RepV] at r; obtain ⟨a, vs, e, _⟩ := r; subst e; simp
  | kt b => simp only [RepV] at r; obtain ⟨a, vs, e, _⟩ := r; subst e; simp
  | lv b => simp only [RepV] at r; obtain ⟨a, vs, e, _⟩ := r; subst e; simp
  | fl b => simp only [RepV] at r; obtain ⟨a, vs, e, _⟩ := r; subst e; simp
  | iv c ks b => simp only [RepV] at r; obtain ⟨a, dx, vs, e, _⟩ := r; subst e; simp
  | dv ks b => simp only [RepV] at r; obtain ⟨a, vs, e, _⟩ := r; subst e; simp
  | xv c ks b => simp only [RepV] at r; obtain ⟨a, oe, e, _⟩ := r; subst e; simp
  | obj n => simp only [RepV] at r; obtain ⟨a, e, _⟩ := r; subst e; simp
theorem snd_is {R : RC} : Op2Snd R oIs (fun x y H Q => y = .non ∧ Q (.bl (decide (x = .non))) H) := by
  intro rho st H x y v u Wx Q S rx ry g
  unfold oIs at g
  split at g
  · simp only [RepV] at ry; subst ry
    split at g
    · simp only [RepV] at rx; subst rx
      exact ⟨rfl, fin_b S g⟩
    · rename_i hx
      refine ⟨rfl, ?_⟩
      rw [decide_eq_false (non_iff rx hx)]
      exact fin_b S g
  · exact g.elim
theorem snd_isNot {R : RC} : Op2Snd R oIsNot (fun x y H Q => y = .non ∧ Q (.bl (!decide (x = .non))) H) := by
  intro rho st H x y v u Wx Q S rx ry g
  unfold oIsNot at g
  split at g
  · simp only [RepV] at ry; subst ry
    split at g
    · simp only [RepV] at rx; subst rx
      exact ⟨rfl, fin_b S g⟩
    · rename_i hx
      refine ⟨rfl, ?_⟩
      rw [decide_eq_false (non_iff rx hx)]
      exact fin_b S g
  · exact g.elim
/-! ### items, slices -/
theorem atI_ok {R : RC} {rho : Rho} {H : Hp} {xs : List PV} {vs : List V} {i : Int} {x : PV} (r : RepVs R rho H xs vs) (e : L2.atI xs i = some x) : ∃ v, L2.atI vs i = some v ∧ RepV R rho H x v := by
  unfold L2.atI at e ⊢
  rw [← r.length]
  cases h : ixN xs.length i with
  | none => rw [h] at e; cases e
  | some j =>
    rw [h] at e
    exact r.get (i := j) e
theorem snd_ix {R : RC} : Op2Snd R oIx (rIx R.K) := by
  intro rho st H x y v u Wx Q S rx ry g
  unfold oIx at g
  split at g
  · split at g
    · rename_i hz
      split at g
      · rename_i c e
        simp only [RepV] at rx ry; subst rx; subst ry
        exact .inr (.inr ⟨_, _, c, rfl, rfl, by rw [sizeLine_eq]; exact hz, e, fin_s S g⟩)
      · exact g.elim
    · exact g.elim
  · simp only [RepV] at ry; subst ry
    split at g
    · rename_i xs hs
      split at g
      · rename_i w e
        obtain ⟨a, vs, e1, h1, h2⟩ := seqOf_ok S rx hs
        subst e1
        obtain ⟨z, e3, e4⟩ := atI_ok h2 e
        rcases h1 with h1 | h1
        · exact .inl ⟨a, vs, _, z, rfl, rfl, h1, e3, fin_v S e4 g⟩
        · exact .inr (.inl ⟨a, vs, _, z, rfl, rfl, h1, e3, fin_v S e4 g⟩)
      · exact g.elim
    · exact g.elim
  · exact g.elim
abbrev rCutAll (K : PySem.W.Frag) : V → Option Int → Option Int → Hp → VK → Prop := fun x lo hi H Q => rSlL K x lo hi H Q ∨ rSlA K x lo hi H Q ∨ rSlS x lo hi H Q
theorem or_cut {X : Cx} : SlR X (rCutAll X.K) := SlR.or sl_list (SlR.or sl_tupA sl_str)
theorem cut_ok {R : RC} {rho : Rho} {H : Hp} {xs : List PV} {vs : List V} {lo hi : Option Int} (r : RepVs R rho H xs vs) : RepVs R rho H (cutL xs lo hi) (cutV vs lo hi) := by
  unfold cutL cutV
  rw [r.length]
  exact (r.drop _).take _
theorem cutL_whole {α : Type} {xs : List α} {lo hi : Option Int} (h : HT.sIx xs.length 0 lo = 0 ∧ HT.sIx xs.length xs.length hi = xs.length) : cutL xs lo hi = xs := by
  unfold cutL
  rw [h.1, h.2]
  simp
theorem snd_cut {R : RC} {mt : Bool} {rho : Rho} {st : Sto} {H : Hp} {x : PV} {v : V} {lo hi : Option Int} {Wx : Value → Option Addr → Hp → Prop} {Q : VK} (S : StRep R rho st H) (rx : RepV R rho H x v) (g : Good R (RepV R) rho H (oCut mt x lo hi st) Wx Q) : rCutAll R.K v lo hi H Q := by
  unfold oCut at g
  split at g
  · split at g
    · rename_i hz
      simp only [RepV] at rx; subst rx
      exact .inr (.inr ⟨_, rfl, by rw [sizeLine_eq]; exact hz, fin_s S g⟩)
    · exact g.elim
  · rename_i xs
    simp only [RepV] at rx
    obtain ⟨a, vs, e1, t1, r1⟩ := rx
    subst e1
    refine .inr (.inl ⟨a, vs, rfl, t1.sq, fun hw => ?_, fun hw => fin_tup S (cut_ok r1) g⟩)
    rw [← r1.length] at hw
    rw [cutL_whole hw] at g
    exact fin_v S (by simp only [RepV]; exact ⟨a, vs, rfl, t1, r1⟩) g
  · split at g
    · rename_i xs hs
      obtain ⟨a, vs, e1, h1, h2⟩ := listOf_ok S rx hs
      subst e1
      exact .inl ⟨a, vs, rfl, h1, new_list S (cut_ok h2) g⟩
    · exact g.elim
/-- an optional part -/
def tP (R : RC) (F : CallT) (W : WX) (m : D (Option Int)) : TO := fun sg H Q => ∃ rho st env, EnvRep R rho H env sg ∧ StRep R rho st H ∧ Good R (fun _ _ (a b : Option Int) => a = b) rho H (m F env st) (fun cls d H' => W cls d sg H') Q
section
variable {R : RC} {F : CallT} {W : WX} {X : Cx}
theorem PO.weak {e : Option Expr} {t t' : TO} (h : PO X e t) (w : ∀ sg H Q, t' sg H Q → t sg H Q) : PO X e t' := ⟨fun pins s sg H Q I q => h.run pins s sg H Q I (w sg H Q q)⟩
theorem po_n : PO X none (tP R F W (dPart none)) := PO.weak po_none fun sg H Q ⟨rho, st, env, hE, hS, g⟩ => g rho H none (Mono.refl _ _) hS rfl
theorem po_s {e : Expr} {a : D PV} (h : PE X e (tE R F W a)) : PO X (some e) (tP R F W (dPart (some a))) := PO.weak (po_some h) fun sg H Q ⟨rho, st, env, hE, hS, g⟩ => by
  refine ⟨rho, st, env, hE, hS, (Good.bnd g).imp fun v H1 ⟨rho1, st1, x, M1, S1, r1, g1⟩ => ?_⟩
  cases x with
  | int i =>
    simp only [RepV] at r1
    exact ⟨i, r1, g1 rho1 H1 (some i) (Mono.refl _ _) S1 rfl⟩
  | _ => exact g1.elim
theorem pe_cut {e : Expr} {lo hi : Option Expr} {p2 pos : Pos} {mt : Bool} {a : D PV} {l h : Option (D PV)} (hR : X.K = R.K) (ha : PE X e (tE R F W a)) (hl : PO X lo (tP R F W (dPart l))) (hh : PO X hi (tP R F W (dPart h))) :
    PE X (.Subscript e (.Slice lo hi none p2) pos) (tE R F W (dCut mt a l h)) := PE.weak (pe_slice or_cut ha hl hh) fun sg H Q ⟨rho, st, env, hE, hS, g⟩ => by
  rw [hR]
  refine ⟨rho, st, env, hE, hS, (Good.bnd g).imp fun v H1 ⟨rho1, st1, x, M1, S1, r1, g1⟩ => ?_⟩
  refine ⟨rho1, st1, env, hE.mono M1, S1, (Good.bnd g1).imp fun l1 H2 ⟨rho2, st2, l', M2, S2, r2, g2⟩ => ?_⟩
  subst r2
  refine ⟨rho2, st2, env, (hE.mono M1).mono M2, S2, (Good.bnd g2).imp fun h1 H3 ⟨rho3, st3, h', M3, S3, r3, g3⟩ => ?_⟩
  subst r3
  exact snd_cut S3 ((r1.mono M2).mono M3) g3
end
/-! ### and, or, not, tests -/
section
variable {R : RC} {F : CallT} {W : WX} {X : Cx}
theorem te_and {a b : D PV} {sg : St} {H : Hp} {Q : VK} (h : tE R F W (dAnd a b) sg H Q) : L2.tAndT R.K (tE R F W a) (tE R F W b) sg H Q := by
  obtain ⟨rho, st, env, hE, hS, g⟩ := h
  refine ⟨rho, st, env, hE, hS, (Good.bnd g).imp fun v H1 ⟨rho1, st1, x, M1, S1, r1, g1⟩ => ?_⟩
  split at g1
  · rename_i e
    exact ⟨true, truth_ok S1 r1 e, iteT ⟨rho1, st1, env, hE.mono M1, S1, g1⟩⟩
  · rename_i e
    exact ⟨false, truth_ok S1 r1 e, iteF (fin_v S1 r1 g1)⟩
  · exact g1.elim
theorem te_or {a b : D PV} {sg : St} {H : Hp} {Q : VK} (h : tE R F W (dOr a b) sg H Q) : L2.tOrT R.K (tE R F W a) (tE R F W b) sg H Q := by
  obtain ⟨rho, st, env, hE, hS, g⟩ := h
  refine ⟨rho, st, env, hE, hS, (Good.bnd g).imp fun v H1 ⟨rho1, st1, x, M1, S1, r1, g1⟩ => ?_⟩
  split at g1
  · rename_i e
    exact ⟨true, truth_ok S1 r1 e, iteT (fin_v S1 r1 g1)⟩
  · rename_i e
    exact ⟨false, truth_ok S1 r1 e, iteF ⟨rho1, st1, env, hE.mono M1, S1, g1⟩⟩
  · exact g1.elim
theorem te_not {a : D PV} {sg : St} {H : Hp} {Q : VK} (h : tE R F W (dNot a) sg H Q) : L2.tNotT R.K (tE R F W a) sg H Q := by
  obtain ⟨rho, st, env, hE, hS, g⟩ := h
  refine ⟨rho, st, env, hE, hS, (Good.bnd g).imp fun v H1 ⟨rho1, st1, x, M1, S1, r1, g1⟩ => ?_⟩
  split at g1
  · rename_i b e
    exact ⟨b, truth_ok S1 r1 e, fin_b S1 g1⟩
  · exact g1.elim
theorem te_chain {o o' : Op2} {r r' : R2} {a b c : D PV} (hs : Op2Snd R o r) (hs' : Op2Snd R o' r') {sg : St} {H : Hp} {Q : VK} (h : tE R F W (dChain o o' a b c) sg H Q) : tChain r r' (tE R F W a) (tE R F W b) (tE R F W c) sg H Q := by
  obtain ⟨rho, st, env, hE, hS, g⟩ := h
  refine ⟨rho, st, env, hE, hS, (Good.bnd g).imp fun v H1 ⟨rho1, st1, x, M1, S1, r1, g1⟩ => ?_⟩
  refine ⟨rho1, st1, env, hE.mono M1, S1, (Good.bnd g1).imp fun u H2 ⟨rho2, st2, y, M2, S2, r2, g2⟩ => ?_⟩
  refine hs rho2 st2 H2 x y v u _ _ S2 (r1.mono M2) r2 ((Good.bnd (rel := RepV R) g2).imp fun z' H3 ⟨rho3, st3, z, M3, S3, r3, g3⟩ => ?_)
  split at g3
  · simp only [RepV] at r3; subst r3
    refine ⟨true, rfl, iteT ⟨rho3, st3, env, ((hE.mono M1).mono M2).mono M3, S3, (Good.bnd g3).imp fun w' H4 ⟨rho4, st4, w, M4, S4, r4, g4⟩ => ?_⟩⟩
    exact hs' rho4 st4 H4 y w u w' _ Q S4 ((r2.mono M3).mono M4) r4 g4
  · simp only [RepV] at r3; subst r3
    exact ⟨false, rfl, iteF (fin_b S3 g3)⟩
  · exact g3.elim
theorem te_if {t : D Bool} {a b : D PV} {sg : St} {H : Hp} {Q : VK} (h : tE R F W (tIfE t a b) sg H Q) : L2.tIf (tB2 R F W t) (tE R F W a) (tE R F W b) sg H Q := by
  obtain ⟨rho, st, env, hE, hS, g⟩ := h
  refine ⟨rho, st, env, hE, hS, (Good.bnd g).imp fun c H1 ⟨rho1, st1, x, M1, S1, r1, g1⟩ => ?_⟩
  subst r1
  cases x with
  | true => exact iteT ⟨rho1, st1, env, hE.mono M1, S1, g1⟩
  | false => exact iteF ⟨rho1, st1, env, hE.mono M1, S1, g1⟩
theorem tt_and {a b : D Bool} {sg : St} {H : Hp} {Q : Bool → Hp → Prop} (h : tB2 R F W (tAndT a b) sg H Q) : tAnd (tB2 R F W a) (tB2 R F W b) sg H Q := by
  obtain ⟨rho, st, env, hE, hS, g⟩ := h
  refine ⟨rho, st, env, hE, hS, (Good.bnd g).imp fun c H1 ⟨rho1, st1, x, M1, S1, r1, g1⟩ => ?_⟩
  subst r1
  cases x with
  | true => exact iteT ⟨rho1, st1, env, hE.mono M1, S1, g1⟩
  | false => exact iteF (g1 rho1 H1 false (Mono.refl _ _) S1 rfl)
theorem tt_or {a b : D Bool} {sg : St} {H : Hp} {Q : Bool → Hp → Prop} (h : tB2 R F W (tOrT a b) sg H Q) : tOr (tB2 R F W a) (tB2 R F W b) sg H Q := by
  obtain ⟨rho, st, env, hE, hS, g⟩ := h
  refine ⟨rho, st, env, hE, hS, (Good.bnd g).imp fun c H1 ⟨rho1, st1, x, M1, S1, r1, g1⟩ => ?_⟩
  subst r1
  cases x with
  | true => exact iteT (g1 rho1 H1 true (Mono.refl _ _) S1 rfl)
  | false => exact iteF ⟨rho1, st1, env, hE.mono M1, S1, g1⟩
theorem tt_not {a : D Bool} {sg : St} {H : Hp} {Q : Bool → Hp → Prop} (h : tB2 R F W (tNotT a) sg H Q) : tNot (tB2 R F W a) sg H Q := by
  obtain ⟨rho, st, env, hE, hS, g⟩ := h
  refine ⟨rho, st, env, hE, hS, (Good.bnd g).imp fun c H1 ⟨rho1, st1, x, M1, S1, r1, g1⟩ => ?_⟩
  subst r1
  exact g1 rho1 H1 _ (Mono.refl _ _) S1 rfl
/-- a value's truth as a test -/
theorem pt_value {e : Expr} {a : D PV} (hR : X.K = R.K) (h : PE X e (tE R F W a)) (he : ∀ whole, isTrue e X.env whole = (do let v ← whole; standAt e.pos; holding [v] (truthy v))) : PT X e (tB2 R F W (tVal a)) :=
  PT.weak (pt_truth h he) fun sg H Q ⟨rho, st, env, hE, hS, g⟩ => by
    rw [hR]
    refine ⟨rho, st, env, hE, hS, (Good.bnd g).imp fun v H1 ⟨rho1, st1, x, M1, S1, r1, g1⟩ => ?_⟩
    split at g1
    · rename_i b e
      exact ⟨b, truth_ok S1 r1 e, g1 rho1 H1 b (Mono.refl _ _) S1 rfl⟩
    · exact g1.elim
/-- a comparison as a test: its answer is a bool -/
def BoolOp2 (o : Op2) : Prop := ∀ x y st, (∃ b, o x y st = .ok (.bl b) st) ∨ o x y st = .bad
theorem good_bool {rho : Rho} {H : Hp} {st : Sto} {b : Bool} {Wx : Value → Option Addr → Hp → Prop} {Q : Bool → Hp → Prop} (S : StRep R rho st H) (q : Q b H) (hm : ∀ rho' H' , Mono rho H rho' H' → True := fun _ _ _ => trivial) : True := trivial
end
end OL
set_option maxRecDepth 100000
set_option maxHeartbeats 0
/-! ## soundness: statements, loops, comprehensions -/
namespace OL
open PySem L2

/-- a statement's end -/
def GoodS (R : RC) (rho : Rho) (H : Hp) (r : Res Fl) (W : WX) (En : Ends) : Prop :=
  match r with
  | .ok (.nx e) st => ∀ rho' H' sg, Mono rho H rho' H' → StRep R rho' st H' → EnvRep R rho' H' e sg → En.nx sg H'
  | .ok (.bk e) st => ∀ rho' H' sg, Mono rho H rho' H' → StRep R rho' st H' → EnvRep R rho' H' e sg → En.bk sg H'
  | .ok (.ct e) st => ∀ rho' H' sg, Mono rho H rho' H' → StRep R rho' st H' → EnvRep R rho' H' e sg → En.ct sg H'
  | .ok (.rt v) st => ∀ rho' H' u, Mono rho H rho' H' → StRep R rho' st H' → RepV R rho' H' v u → En.rt u H'
  | .ok (.ex c ks xs e) st => ∀ rho' H' sg cls d, Mono rho H rho' H' → StRep R rho' st H' → EnvRep R rho' H' e sg → ExcRep R rho' H' c ks xs cls d → W cls d sg H'
  | .exc _ _ _ _ => False
  | .bad => False
def tS (R : RC) (F : CallT) (W : WX) (m : SD) : TS := fun En sg H => ∃ rho st env, EnvRep R rho H env sg ∧ StRep R rho st H ∧ GoodS R rho H (m F env st) W En
def tG (R : RC) (F : CallT) (W : WX) (g : G) : TG := fun v sg H Q => ∃ rho st env x, EnvRep R rho H env sg ∧ StRep R rho st H ∧ RepV R rho H x v ∧
  Good R (EnvRep R) rho H (g x F env st) (fun cls d H' => W cls d sg H') Q
theorem PS.weak {X : Cx} {e : Stmt} {t t' : TS} (h : PS X e t) (w : ∀ Dn sg H, t' Dn sg H → t Dn sg H) : PS X e t' := ⟨fun pins s sg H D I q => h.run pins s sg H D I (w D sg H q)⟩
theorem PSs.weak {X : Cx} {e : List Stmt} {t t' : TS} (h : PSs X e t) (w : ∀ Dn sg H, t' Dn sg H → t Dn sg H) : PSs X e t' := ⟨fun pins s sg H D I q => h.run pins s sg H D I (w D sg H q)⟩
theorem PG.weak {X : Cx} {e : Expr} {t t' : TG} (h : PG X e t) (w : ∀ v sg H Q, t' v sg H Q → t v sg H Q) : PG X e t' := ⟨fun pins s sg H v u Q I r q => h.run pins s sg H v u Q I r (w v sg H Q q)⟩
theorem PGs.weak {X : Cx} {e : List Expr} {t t' : TGs} (h : PGs X e t) (w : ∀ v sg H Q, t' v sg H Q → t v sg H Q) : PGs X e t' := ⟨fun pins s sg H v u Q I r q => h.run pins s sg H v u Q I r (w v sg H Q q)⟩

section
variable {R : RC} {F : CallT} {W : WX} {En : Ends} {sg : St} {H H' : Hp} {rho rho' : Rho}
theorem GoodS.shift {r : Res Fl} (M : Mono rho H rho' H') (g : GoodS R rho H r W En) : GoodS R rho' H' r W En := by
  cases r with
  | ok f st => cases f with
    | nx e => exact fun a b c M2 => g a b c (M.trans M2)
    | bk e => exact fun a b c M2 => g a b c (M.trans M2)
    | ct e => exact fun a b c M2 => g a b c (M.trans M2)
    | rt v => exact fun a b c M2 => g a b c (M.trans M2)
    | ex c ks xs e => exact fun a b s c d M2 => g a b s c d (M.trans M2)
  | exc c ks xs st => exact g
  | bad => exact g
/-- an expression first -/
theorem GoodS.at {α β : Type} {rel : Rho → Hp → α → β → Prop} {m : Res α} {env : LEnv} {f : α → Sto → Res Fl} (hE : EnvRep R rho H env sg) (g : GoodS R rho H (m.at env f) W En) :
    Good R rel rho H m (fun cls d H' => W cls d sg H') (fun b H1 => ∃ rho1 st1 a, Mono rho H rho1 H1 ∧ StRep R rho1 st1 H1 ∧ rel rho1 H1 a b ∧ GoodS R rho1 H1 (f a st1) W En) := by
  cases m with
  | ok a st => exact fun rho' H' b M S e => ⟨rho', st, a, M, S, e, GoodS.shift M g⟩
  | exc c ks xs st => exact fun rho' H' cls d M S e => g rho' H' sg cls d M S (hE.mono M) e
  | bad => exact g
theorem ts_nil (h : tS R F W sNil En sg H) : tNext En sg H := by
  obtain ⟨rho, st, env, hE, hS, g⟩ := h
  exact g rho H sg (Mono.refl _ _) hS hE
theorem ts_brk (h : tS R F W sBrk En sg H) : tBreak En sg H := by
  obtain ⟨rho, st, env, hE, hS, g⟩ := h
  exact g rho H sg (Mono.refl _ _) hS hE
theorem ts_cnt (h : tS R F W sCnt En sg H) : tCont En sg H := by
  obtain ⟨rho, st, env, hE, hS, g⟩ := h
  exact g rho H sg (Mono.refl _ _) hS hE
theorem ts_seq {a b : SD} (h : tS R F W (sSeq a b) En sg H) : tSeq (tS R F W a) (tS R F W b) En sg H := by
  obtain ⟨rho, st, env, hE, hS, g⟩ := h
  refine ⟨rho, st, env, hE, hS, ?_⟩
  unfold sSeq at g
  cases e : a F env st with
  | ok f s1 => cases f with
    | nx e1 =>
      rw [e] at g
      exact fun rho' H' sg' M S E' => ⟨rho', s1, e1, E', S, GoodS.shift M g⟩
    | bk e1 => rw [e] at g; exact g
    | ct e1 => rw [e] at g; exact g
    | rt v => rw [e] at g; exact g
    | ex c ks xs e1 => rw [e] at g; exact g
  | exc c ks xs s1 => rw [e] at g; exact g
  | bad => rw [e] at g; exact g
theorem ts_ex {a : D PV} (h : tS R F W (sEx a) En sg H) : tDrop (tE R F W a) En sg H := by
  obtain ⟨rho, st, env, hE, hS, g⟩ := h
  exact ⟨rho, st, env, hE, hS, (GoodS.at hE g).imp fun v H1 ⟨rho1, st1, x, M1, S1, r1, g1⟩ => g1 rho1 H1 sg (Mono.refl _ _) S1 (hE.mono M1)⟩
theorem ts_ret {a : D PV} (h : tS R F W (sRet a) En sg H) : tRet (tE R F W a) En sg H := by
  obtain ⟨rho, st, env, hE, hS, g⟩ := h
  exact ⟨rho, st, env, hE, hS, (GoodS.at hE g).imp fun v H1 ⟨rho1, st1, x, M1, S1, r1, g1⟩ => g1 rho1 H1 v (Mono.refl _ _) S1 r1⟩
theorem ts_retN (h : tS R F W sRetN En sg H) : tRetN En sg H := by
  obtain ⟨rho, st, env, hE, hS, g⟩ := h
  exact g rho H .non (Mono.refl _ _) hS (by simp only [RepV])
theorem ts_if {t : D Bool} {a b : SD} (h : tS R F W (sIf t a b) En sg H) : tIfS (tB2 R F W t) (tS R F W a) (tS R F W b) En sg H := by
  obtain ⟨rho, st, env, hE, hS, g⟩ := h
  refine ⟨rho, st, env, hE, hS, (GoodS.at hE g).imp fun c H1 ⟨rho1, st1, x, M1, S1, r1, g1⟩ => ?_⟩
  subst r1
  cases x with
  | true => exact iteT ⟨rho1, st1, env, hE.mono M1, S1, g1⟩
  | false => exact iteF ⟨rho1, st1, env, hE.mono M1, S1, g1⟩
theorem ts_asg {a : D PV} {g : G} (h : tS R F W (sAsg a g) En sg H) : tAsg (tE R F W a) (tG R F W g) En sg H := by
  obtain ⟨rho, st, env, hE, hS, g⟩ := h
  refine ⟨rho, st, env, hE, hS, (GoodS.at hE g).imp fun v H1 ⟨rho1, st1, x, M1, S1, r1, g1⟩ => ?_⟩
  refine ⟨rho1, st1, env, x, hE.mono M1, S1, r1, (GoodS.at (hE.mono M1) g1).imp fun sg2 H2 ⟨rho2, st2, e2, M2, S2, r2, g2⟩ => ?_⟩
  exact g2 rho2 H2 sg2 (Mono.refl _ _) S2 r2
theorem ts_par {i j : Nat} {a b : D PV} (h : tS R F W (sPar i j a b) En sg H) : tPar i j (tL R F W (dArgs [a, b])) En sg H := by
  obtain ⟨rho, st, env, hE, hS, g⟩ := h
  refine ⟨rho, st, env, hE, hS, ?_⟩
  show Good R (RepVs R) rho H ((a F env st).bnd _) _ _
  have g1 := GoodS.at (rel := RepV R) hE g
  cases e1 : a F env st with
  | bad => rw [e1] at g1; exact g1
  | exc c ks xs s1 => rw [e1] at g1; exact g1
  | ok x s1 =>
    have g' : GoodS R rho H ((b F env s1).at env fun w s1 => .ok (.nx ((env.set i (some x)).set j (some w))) s1) W En := by
      unfold sPar at g
      rw [e1] at g
      exact g
    show Good R (RepVs R) rho H (((b F env s1).bnd fun y s2 => .ok [y] s2).bnd fun xs s2 => .ok (x :: xs) s2) _ _
    cases e2 : b F env s1 with
    | bad => rw [e2] at g'; exact g'
    | exc c ks xs s2 =>
      rw [e2] at g'
      exact fun rho' H' cls d M S ex => g' rho' H' sg cls d M S (hE.mono M) ex
    | ok y s2 =>
      rw [e2] at g'
      refine fun rho' H' vs M S r => ?_
      simp only [RepVs] at r
      obtain ⟨v, r1, ev, hv, w, r2, ew, hw, hn⟩ := r
      subst ev; subst ew; subst hn
      exact ⟨v, w, rfl, g' rho' H' _ M S (((hE.mono M).set i hv).set j hw)⟩
/-! ### targets -/
theorem tg_nm {i : Nat} {v : V} {Q : St → Hp → Prop} (h : tG R F W (gNm i) v sg H Q) : gName i v sg H Q := by
  obtain ⟨rho, st, env, x, hE, hS, r, g⟩ := h
  exact g rho H _ (Mono.refl _ _) hS (hE.set i r)
def tGs (R : RC) (F : CallT) (W : WX) (gs : List G) : TGs := fun vs sg H Q => ∃ rho st env xs, EnvRep R rho H env sg ∧ StRep R rho st H ∧ RepVs R rho H xs vs ∧
  Good R (EnvRep R) rho H (gEach gs xs F env st) (fun cls d H' => ∀ sg', W cls d sg' H') Q
theorem tg_nil {vs : List V} {Q : St → Hp → Prop} (h : tGs R F W [] vs sg H Q) : gNil vs sg H Q := by
  obtain ⟨rho, st, env, xs, hE, hS, r, g⟩ := h
  cases xs with
  | nil => simp only [RepVs] at r; subst r; exact ⟨rfl, g rho H _ (Mono.refl _ _) hS hE⟩
  | cons x xs => exact g.elim
end
/-- what has no exception of its own -/
def Calm (r : Res LEnv) : Prop := ∀ c ks xs st, r ≠ .exc c ks xs st
section
variable {R : RC} {F : CallT} {W : WX} {En : Ends} {sg : St} {H H' : Hp} {rho rho' : Rho}
theorem tg_cons {g : G} {gs : List G} {vs : List V} {Q : St → Hp → Prop} (h : tGs R F W (g :: gs) vs sg H Q) : gCons (tG R F W g) (tGs R F W gs) vs sg H Q := by
  obtain ⟨rho, st, env, xs, hE, hS, r, g⟩ := h
  cases xs with
  | nil => exact g.elim
  | cons x xs =>
    simp only [RepVs] at r
    obtain ⟨v, rs, ev, h1, h2⟩ := r
    refine ⟨v, rs, ev, rho, st, env, x, hE, hS, h1, ?_⟩
    have g1 := Good.bnd (rel := EnvRep R) g
    refine Good.imp (Q := fun sg1 H1 => ∃ rho1 st1 a, Mono rho H rho1 H1 ∧ StRep R rho1 st1 H1 ∧ EnvRep R rho1 H1 a sg1 ∧ Good R (EnvRep R) rho1 H1 (gEach gs xs F a st1) (fun cls d H' => ∀ sg', W cls d sg' H') Q) ?_ fun sg1 H1 ⟨rho1, st1, e1, M1, S1, r1, g2⟩ => ⟨rho1, st1, e1, xs, r1, S1, h2.mono M1, g2⟩
    revert g1
    cases (‹G› : G) x F env st with
    | ok a s => exact fun g1 => g1
    | bad => exact fun g1 => g1
    | exc c ks ys s => exact fun g1 rho' H' cls d M S ex => g1 rho' H' cls d M S ex sg
theorem tg_tp {gs : List G} {v : V} {Q : St → Hp → Prop} (h : tG R F W (gTp gs) v sg H Q) : gTup R.K gs.length (tGs R F W gs) v sg H Q := by
  obtain ⟨rho, st, env, x, hE, hS, r, g⟩ := h
  cases x with
  | tup xs =>
    simp only [RepV] at r
    obtain ⟨a, vs, ev, t, rs⟩ := r
    simp only [gTp] at g
    split at g
    · rename_i hl
      refine ⟨a, vs, ev, t.sq, by rw [← rs.length]; exact hl, rho, st, env, xs, hE, hS, rs, ?_⟩
      cases e : gEach gs xs F env st with
      | ok a s => rw [e] at g; exact g
      | bad => rw [e] at g; exact g
      | exc c ks ys s => rw [e] at g; exact g.elim
    · exact g.elim
  | _ => exact g.elim
theorem tg_sb {o i : D PV} {v : V} {Q : St → Hp → Prop} (h : tG R F W (gSb o i) v sg H Q) : gSub (tE R F W o) (tE R F W i) rSetL v sg H Q := by
  obtain ⟨rho, st, env, x, hE, hS, r, g⟩ := h
  refine ⟨rho, st, env, hE, hS, (Good.bnd g).imp fun ov H1 ⟨rho1, st1, ox, M1, S1, r1, g1⟩ => ?_⟩
  refine ⟨rho1, st1, env, hE.mono M1, S1, (Good.bnd g1).imp fun iv H2 ⟨rho2, st2, ix, M2, S2, r2, g2⟩ => ?_⟩
  cases ox with
  | obj n =>
    cases ix with
    | int k =>
      simp only [oSet] at g2
      split at g2
      · rename_i xs en
        split at g2
        · rename_i j ej
          obtain ⟨a, vs, ea, ha, hl, rs⟩ := obj_list S2 (r1.mono M2) en
          subst ea
          simp only [RepV] at r2
          subst r2
          refine ⟨a, vs, k, j, rfl, rfl, hl, by rw [← rs.length]; exact ej, ?_⟩
          have MW : Mono rho2 H2 rho2 (upd H2 a (.lst (vs.set j v))) := Mono.write S2 ha
          refine g2 rho2 _ sg MW (S2.write ha ⟨a, vs.set j v, ha, upd_same, (rs.set j ((r.mono M1).mono M2)).mono MW⟩) (((hE.mono M1).mono M2).mono MW)
        · exact g2.elim
      · exact g2.elim
    | _ => exact g2.elim
  | _ => exact g2.elim
/-! ### attributes -/
end
theorem putA_ok {R : RC} {rho : Rho} {H : Hp} {k : Nat} {x : PV} {v : V} (hinj : ∀ i j, R.aN i = R.aN j → i = j) (hv : RepV R rho H x v) : ∀ {ks ks' : List Nat} {xs xs' : List PV} {vs : List V}, RepVs R rho H xs vs → ks.length = xs.length → putA k x ks xs = some (ks', xs') →
    ∃ vs', putF (R.aN k) v ((ks.map R.aN).zip vs) = (ks'.map R.aN).zip vs' ∧ RepVs R rho H xs' vs' ∧ ks'.length = xs'.length
  | [], ks', [], xs', vs, r, _, e => by
    simp only [RepVs] at r; subst r
    simp only [putA] at e; cases e
    exact ⟨[v], rfl, RepVs.cons hv (by simp only [RepVs]), rfl⟩
  | j :: ks, ks', y :: ys, xs', vs, r, hl, e => by
    simp only [RepVs] at r
    obtain ⟨u, rs, ev, h1, h2⟩ := r
    subst ev
    simp only [putA] at e
    split at e
    · rename_i hj
      cases e
      subst hj
      refine ⟨v :: rs, ?_, RepVs.cons hv h2, by simpa using hl⟩
      show (if R.aN j = R.aN j then _ else _) = _
      rw [if_pos rfl]
      rfl
    · rename_i hj
      split at e
      · rename_i ks2 xs2 e2
        cases e
        obtain ⟨vs', h3, h4, h5⟩ := putA_ok hinj hv h2 (by simpa using hl) e2
        refine ⟨u :: vs', ?_, RepVs.cons h1 h4, by simp [h5]⟩
        show (if R.aN j = R.aN k then _ else (R.aN j, u) :: putF (R.aN k) v ((ks.map R.aN).zip rs)) = _
        rw [if_neg fun q => hj (hinj _ _ q), h3]
        rfl
      · cases e
  | [], _, _ :: _, _, _, _, _, e => by simp only [putA] at e; cases e
  | _ :: _, _, [], _, _, _, _, e => by simp only [putA] at e; cases e
theorem getA_ok {R : RC} {rho : Rho} {H : Hp} {k : Nat} {x : PV} (hinj : ∀ i j, R.aN i = R.aN j → i = j) : ∀ {ks : List Nat} {xs : List PV} {vs : List V}, RepVs R rho H xs vs → getA k ks xs = some x →
    ∃ v, ((ks.map R.aN).zip vs).lookup (R.aN k) = some v ∧ RepV R rho H x v
  | j :: ks, y :: ys, vs, r, e => by
    simp only [RepVs] at r
    obtain ⟨u, rs, ev, h1, h2⟩ := r
    subst ev
    simp only [getA] at e
    split at e
    · rename_i hj
      cases e
      subst hj
      exact ⟨u, by simp, h1⟩
    · rename_i hj
      obtain ⟨v, h3, h4⟩ := getA_ok hinj h2 e
      refine ⟨v, ?_, h4⟩
      have hb : (R.aN k == R.aN j) = false := beq_eq_false_iff_ne.mpr fun q => hj (hinj _ _ q.symm)
      simp only [List.map_cons, List.zip_cons_cons, List.lookup_cons, hb]
      exact h3
  | [], _, _, _, e => by simp only [getA] at e; cases e
  | _ :: _, [], _, _, e => by simp only [getA] at e; cases e

/-! ### what a for walks -/
def SrcRep (R : RC) (rho : Rho) (H : Hp) : Src → It → Prop
  | .seq ys, J => ∀ rho' st' H', MonoV rho H rho' H' → StRep R rho' st' H' → (∀ (i : Nat) x, ys[i]? = some x → J.go i H' ∧ ∀ v H2, J.yld i H' v H2 → ∃ rho2, Mono rho' H' rho2 H2 ∧ StRep R rho2 st' H2 ∧ RepV R rho2 H2 x v) ∧ ∀ i, ys.length ≤ i → J.stop i H'
  | .cell n _, J => ∀ rho' st' H' xs, MonoV rho H rho' H' → StRep R rho' st' H' → st'[n]? = some (.lst xs) → (∀ (i : Nat) x, xs[i]? = some x → J.go i H' ∧ ∀ v H2, J.yld i H' v H2 → ∃ rho2, Mono rho' H' rho2 H2 ∧ StRep R rho2 st' H2 ∧ RepV R rho2 H2 x v) ∧ ∀ i, xs.length ≤ i → J.stop i H'
theorem SrcRep.mono {R : RC} {r1 r2 : Rho} {H1 H2 : Hp} {s : Src} {J : It} (M : MonoV r1 H1 r2 H2) (h : SrcRep R r1 H1 s J) : SrcRep R r2 H2 s J := by
  cases s with
  | seq ys => exact fun r st H' M2 S => h r st H' (M.trans M2) S
  | cell n k => exact fun r st H' xs M2 S e => h r st H' xs (M.trans M2) S e
def tI (R : RC) (F : CallT) (W : WX) (m : D Src) : TI := fun sg H Rr => ∃ rho st env, EnvRep R rho H env sg ∧ StRep R rho st H ∧ Good R (SrcRep R) rho H (m F env st) (fun cls d H' => W cls d sg H') Rr
theorem PI.weak {X : Cx} {tg e : Expr} {t t' : TI} (h : PI X tg e t) (w : ∀ sg H Q, t' sg H Q → t sg H Q) : PI X tg e t' := ⟨fun pins s sg H Q I q => h.run pins s sg H Q I (w sg H Q q)⟩
theorem PI.or {X : Cx} {tg e : Expr} {t t' : TI} (h : PI X tg e t) (h' : PI X tg e t') : PI X tg e (fun sg H Q => t sg H Q ∨ t' sg H Q) := ⟨fun pins s sg H Q I q => by
  rcases q with q | q
  · exact h.run pins s sg H Q I q
  · exact h'.run pins s sg H Q I q⟩
section
variable {R : RC} {F : CallT} {W : WX} {X : Cx}
theorem pi_src {tg e : Expr} {a : D PV} (hR : X.K = R.K) (h : PE X e (tE R F W a)) : PI X tg e (tI R F W (dSrc a)) := by
  refine PI.weak (PI.or (pi_list h) (PI.or (pi_tup h) (pi_str h))) fun sg H Rr ⟨rho, st, env, hE, hS, g⟩ => ?_
  rw [hR]
  unfold dSrc at g
  cases ea : a F env st with
  | bad => rw [ea] at g; exact g.elim
  | exc c ks xs s =>
    rw [ea] at g
    exact .inl ⟨rho, st, env, hE, hS, by rw [ea]; exact g⟩
  | ok x s =>
    rw [ea] at g
    have g : Good R (SrcRep R) rho H (match srcOf s x with | some y => Res.ok y s | none => .bad) (fun cls d H' => W cls d sg H') Rr := g
    have lstC : ∀ xs, listOf s x = some xs → srcOf s x = some (.seq xs) → (∀ rho1 H1 v, RepV R rho1 H1 x v → ∃ b vs, v = .ref b ∧ (∀ rho' H', MonoV rho1 H1 rho' H' → SqL R.K H' b vs) ∧ RepVs R rho1 H1 xs vs) → iList R.K (tE R F W a) sg H Rr := by
      intro xs e1 e2 hst
      rw [e2] at g
      refine ⟨rho, st, env, hE, hS, ?_⟩
      rw [ea]
      refine fun rho1 H1 v M1 S1 r1 => ?_
      obtain ⟨b, vs, ev, hq, rs⟩ := hst rho1 H1 v r1
      refine ⟨b, ev, ⟨vs, hq rho1 H1 (MonoV.refl _ _)⟩, g rho1 H1 _ M1 S1 fun rho' st' H' M' S' => ⟨fun i y ey => ?_, fun i hi => ⟨vs, hq _ _ M', by rw [← rs.length]; exact hi⟩⟩⟩
      obtain ⟨w, ew, rw'⟩ := rs.get ey
      refine ⟨⟨vs, w, hq _ _ M', ew⟩, fun v2 H2 hy => ?_⟩
      obtain ⟨eH, hall⟩ := hy
      subst eH
      have e3 := hall vs (hq _ _ M')
      rw [ew] at e3
      cases e3
      exact ⟨rho', Mono.refl _ _, S', RepV.monoV M' _ _ rw'⟩
    cases x with
    | tup xs =>
      have g : Good R (SrcRep R) rho H (Res.ok (.seq xs) s) (fun cls d H' => W cls d sg H') Rr := g
      refine .inr (.inl ⟨rho, st, env, hE, hS, ?_⟩)
      rw [ea]
      refine fun rho1 H1 v M1 S1 r1 => ?_
      simp only [RepV] at r1
      obtain ⟨b, vs, ev, t, rs⟩ := r1
      refine ⟨b, ev, ⟨vs, t.sq⟩, g rho1 H1 _ M1 S1 fun rho' st' H' M' S' => ⟨fun i y ey => ?_, fun i hi => ⟨vs, (t.monoV M').sq, by rw [← rs.length]; exact hi⟩⟩⟩
      obtain ⟨w, ew, rw'⟩ := rs.get ey
      refine ⟨⟨vs, w, (t.monoV M').sq, ew⟩, fun v2 H2 hy => ?_⟩
      obtain ⟨eH, hall⟩ := hy
      subst eH
      have e3 := hall vs (t.monoV M').sq
      rw [ew] at e3
      cases e3
      exact ⟨rho', Mono.refl _ _, S', RepV.monoV M' _ _ rw'⟩
    | kt xs =>
      have g : Good R (SrcRep R) rho H (Res.ok (.seq xs) s) (fun cls d H' => W cls d sg H') Rr := g
      refine .inr (.inl ⟨rho, st, env, hE, hS, ?_⟩)
      rw [ea]
      refine fun rho1 H1 v M1 S1 r1 => ?_
      simp only [RepV] at r1
      obtain ⟨b, vs, ev, t, rs⟩ := r1
      have sq : ∀ H', SqT R.K H' b vs := fun H' => .inr t
      refine ⟨b, ev, ⟨vs, sq _⟩, g rho1 H1 _ M1 S1 fun rho' st' H' M' S' => ⟨fun i y ey => ?_, fun i hi => ⟨vs, sq _, by rw [← rs.length]; exact hi⟩⟩⟩
      obtain ⟨w, ew, rw'⟩ := rs.get ey
      refine ⟨⟨vs, w, sq _, ew⟩, fun v2 H2 hy => ?_⟩
      obtain ⟨eH, hall⟩ := hy
      subst eH
      have e3 := hall vs (sq _)
      rw [ew] at e3
      cases e3
      exact ⟨rho', Mono.refl _ _, S', RepV.monoV M' _ _ rw'⟩
    | lv xs =>
      refine .inl (lstC xs rfl rfl fun rho1 H1 v r => ?_)
      simp only [RepV] at r
      obtain ⟨b, vs, ev, t, d, rs⟩ := r
      exact ⟨b, vs, ev, fun rho' H' M' => .inl (.inl (M'.keep _ _ t d)), rs⟩
    | fl xs =>
      refine .inl (lstC xs rfl rfl fun rho1 H1 v r => ?_)
      simp only [RepV] at r
      obtain ⟨b, vs, ev, t, rs⟩ := r
      exact ⟨b, vs, ev, fun rho' H' M' => (t.monoV M').sq, rs⟩
    | str z =>
      have g : Good R (SrcRep R) rho H (Res.ok (.seq (z.cps.toList.map fun c => .str ⟨#[c]⟩)) s) (fun cls d H' => W cls d sg H') Rr := g
      refine .inr (.inr ⟨rho, st, env, hE, hS, ?_⟩)
      rw [ea]
      refine fun rho1 H1 v M1 S1 r1 => ?_
      simp only [RepV] at r1
      refine ⟨z, r1, g rho1 H1 _ M1 S1 fun rho' st' H' M' S' => ⟨fun i y ey => ?_, fun i hi => by simp at hi; exact hi⟩⟩
      rw [List.getElem?_map] at ey
      cases ec : z.cps.toList[i]? with
      | none => rw [ec] at ey; cases ey
      | some c =>
        rw [ec] at ey
        cases ey
        have ec' : z.cps[i]? = some c := by simpa using ec
        refine ⟨(Array.getElem?_eq_some_iff.mp ec').1, fun v2 H2 hy => ?_⟩
        obtain ⟨eH, c2, e2, ev2⟩ := hy
        subst eH
        rw [ec'] at e2
        cases e2
        exact ⟨rho', Mono.refl _ _, S', by simp only [RepV]; exact ev2⟩
    | obj n =>
      simp only [srcOf] at g
      split at g
      · rename_i y ey
        split at ey
        · rename_i xs en
          cases ey
          refine .inl ⟨rho, st, env, hE, hS, ?_⟩
          rw [ea]
          refine fun rho1 H1 v M1 S1 r1 => ?_
          obtain ⟨b, vs, ev, eb, hb, rs⟩ := obj_list S1 r1 en
          subst ev
          refine ⟨b, rfl, ⟨vs, .inl (.inl hb)⟩, g rho1 H1 _ M1 S1 fun rho' st' H' xs' M' S' en' => ?_⟩
          obtain ⟨b', vs', ev', eb', hb', rs'⟩ := obj_list S' (RepV.monoV M' _ _ r1) en'
          cases ev'
          refine ⟨fun i y ey => ?_, fun i hi => ⟨vs', .inl (.inl hb'), by rw [← rs'.length]; exact hi⟩⟩
          obtain ⟨w, ew, rw'⟩ := rs'.get ey
          refine ⟨⟨vs', w, .inl (.inl hb'), ew⟩, fun v2 H2 hy => ?_⟩
          obtain ⟨eH, hall⟩ := hy
          subst eH
          have e3 := hall vs' (.inl (.inl hb'))
          rw [ew] at e3
          cases e3
          exact ⟨rho', Mono.refl _ _, S', rw'⟩
        · cases ey
      · exact g.elim
    | _ => exact g.elim
theorem rng_rep {rho : Rho} {H : Hp} {lo : Int} {n : Nat} : SrcRep R rho H (.seq (intsFrom lo n)) (Itr lo n) := fun rho' st' H' M' S' => by
  unfold intsFrom
  refine ⟨fun i y ey => ?_, fun i hi => by simp at hi; exact hi⟩
  rw [List.getElem?_map] at ey
  cases ec : (List.range n)[i]? with
  | none => rw [ec] at ey; cases ey
  | some c =>
    rw [ec] at ey
    cases ey
    obtain ⟨h1, h2⟩ := List.getElem?_eq_some_iff.mp ec
    simp at h1 h2
    subst h2
    exact ⟨h1, fun v H2 hy => ⟨rho', by rw [hy.1]; exact Mono.refl _ _, by rw [hy.1]; exact S', by simp only [RepV]; exact hy.2⟩⟩
theorem pi_rng1 {tg e : Expr} {p pos : Pos} {a : D PV} (hg : Gl X "range") (hm : X.mg "range" = none) (ha : PA X [e] (tL R F W (dArgs [a]))) (hs : starEach [e] X.env = [(false, eval e X.env)]) : PI X tg (.Call (.Name "range" p) [e] [] pos) (tI R F W (dRng1 a)) := by
  refine PI.weak (pi_range1 hg hm ha hs) fun sg H Rr ⟨rho, st, env, hE, hS, g⟩ => ⟨rho, st, env, hE, hS, ?_⟩
  show Good R (RepVs R) rho H ((a F env st).bnd fun x s1 => ((dArgs [] F env s1).bnd fun xs s2 => .ok (x :: xs) s2)) _ _
  unfold dRng1 at g
  cases ea : a F env st with
  | bad => rw [ea] at g; exact g
  | exc c ks xs s => rw [ea] at g; exact g
  | ok x s =>
    rw [ea] at g
    refine fun rho1 H1 vs M1 S1 r1 => ?_
    simp only [RepVs] at r1
    obtain ⟨v, r, ev, hv, er⟩ := r1
    subst ev; subst er
    cases x with
    | int n =>
      simp only [RepV] at hv
      subst hv
      have g : Good R (SrcRep R) rho H (if -(2 ^ 62) ≤ n ∧ n < 2 ^ 62 then .ok (.seq (intsFrom 0 n.toNat)) s else .bad) (fun cls d H' => W cls d sg H') Rr := g
      split at g
      · rename_i hn
        exact ⟨n, rfl, hn.1, hn.2, g rho1 H1 _ M1 S1 rng_rep⟩
      · exact g.elim
    | _ => exact g.elim
theorem pi_rng2 {tg e e2 : Expr} {p pos : Pos} {a b : D PV} (hg : Gl X "range") (hm : X.mg "range" = none) (ha : PA X [e, e2] (tL R F W (dArgs [a, b]))) (hs : starEach [e, e2] X.env = [(false, eval e X.env), (false, eval e2 X.env)]) (hs2 : starEach [e2] X.env = [(false, eval e2 X.env)]) : PI X tg (.Call (.Name "range" p) [e, e2] [] pos) (tI R F W (dRng2 a b)) := by
  refine PI.weak (pi_range2 hg hm ha hs hs2) fun sg H Rr ⟨rho, st, env, hE, hS, g⟩ => ⟨rho, st, env, hE, hS, ?_⟩
  show Good R (RepVs R) rho H ((a F env st).bnd fun x s1 => (((b F env s1).bnd fun y s2 => .ok [y] s2).bnd fun xs s2 => .ok (x :: xs) s2)) _ _
  unfold dRng2 at g
  cases ea : a F env st with
  | bad => rw [ea] at g; exact g
  | exc c ks xs s => rw [ea] at g; exact g
  | ok x s =>
    rw [ea] at g
    have g : Good R (SrcRep R) rho H ((b F env s).bnd _) (fun cls d H' => W cls d sg H') Rr := g
    show Good R (RepVs R) rho H ((((b F env s).bnd fun y s2 => .ok [y] s2).bnd fun xs s2 => .ok (x :: xs) s2)) _ _
    cases eb : b F env s with
    | bad => rw [eb] at g; exact g
    | exc c ks xs s => rw [eb] at g; exact g
    | ok y s1 =>
      rw [eb] at g
      refine fun rho1 H1 vs M1 S1 r1 => ?_
      simp only [RepVs] at r1
      obtain ⟨v, r, ev, hv, u, r', eu, hu, er⟩ := r1
      subst ev; subst eu; subst er
      cases x with
      | int lo =>
        cases y with
        | int hi =>
          simp only [RepV] at hv hu
          subst hv; subst hu
          have g : Good R (SrcRep R) rho H (if -(2 ^ 62) ≤ lo ∧ lo < 2 ^ 62 ∧ -(2 ^ 62) ≤ hi ∧ hi < 2 ^ 62 then .ok (.seq (intsFrom lo (hi - lo).toNat)) s1 else .bad) (fun cls d H' => W cls d sg H') Rr := g
          split at g
          · rename_i hn
            exact ⟨lo, hi, rfl, hn, g rho1 H1 _ M1 S1 rng_rep⟩
          · exact g.elim
        | _ => exact g.elim
      | _ => exact g.elim
end
end OL
set_option maxRecDepth 100000
set_option maxHeartbeats 0
/-! ## soundness: loops, comprehensions -/
namespace OL
open PySem L2
section
variable {R : RC} {F : CallT} {W : WX} {X : Cx}
/-- one turn of a loop: the body's end, the loop's rest -/
theorem turn_end {rho : Rho} {H : Hp} {r : Res Fl} {k : LEnv → Sto → Res Fl} {En : Ends} {N : St → Hp → Prop}
    (hN : ∀ rho' H' sg e st, Mono rho H rho' H' → StRep R rho' st H' → EnvRep R rho' H' e sg → GoodS R rho' H' (k e st) W En → N sg H')
    (g : GoodS R rho H (match r with | .ok (.nx e2) s2 => k e2 s2 | .ok (.ct e2) s2 => k e2 s2 | .ok (.bk e2) s2 => .ok (.nx e2) s2 | r => r) W En) :
    GoodS R rho H r W { En with nx := N, ct := N, bk := En.nx } := by
  cases r with
  | ok f st => cases f with
    | nx e => exact fun rho' H' sg M S E' => hN rho' H' sg e st M S E' (GoodS.shift M g)
    | ct e => exact fun rho' H' sg M S E' => hN rho' H' sg e st M S E' (GoodS.shift M g)
    | bk e => exact g
    | rt v => exact g
    | ex c ks xs e => exact g
  | exc c ks xs st => exact g
  | bad => exact g
theorem ts_for {m : D Src} {g : G} {b : SD} {En : Ends} {sg : St} {H : Hp} (h : tS R F W (sFor m g b) En sg H) : tFor (tI R F W m) (tG R F W g) (tS R F W b) En sg H := by
  obtain ⟨rho, st, env, hE, hS, gd⟩ := h
  refine ⟨rho, st, env, hE, hS, (GoodS.at hE gd).imp fun J H1 ⟨rho1, st1, src, M1, S1, r1, g1⟩ => ?_⟩
  cases src with
  | seq ys =>
    have g1 : GoodS R rho1 H1 (forSeq g b ys F env st1) W En := g1
    refine ⟨fun i m sg H => m = ys.length - i ∧ i ≤ ys.length ∧ ∃ rho st env, Mono rho1 H1 rho H ∧ EnvRep R rho H env sg ∧ StRep R rho st H ∧ GoodS R rho H (forSeq g b (ys.drop i) F env st) W En,
      ⟨ys.length, by simp, Nat.zero_le _, rho1, st1, env, Mono.refl _ _, hE.mono M1, S1, by simpa using g1⟩, ?_⟩
    rintro i m sg' H2 ⟨rfl, hi, rho2, st2, env2, M2, E2, S2, g2⟩
    obtain ⟨hgo, hstop⟩ := r1 rho2 st2 H2 M2.toMonoV S2
    by_cases hl : i < ys.length
    · have hy : ys[i]? = some ys[i] := List.getElem?_eq_getElem hl
      obtain ⟨h1, h2⟩ := hgo i _ hy
      have hd : ys.drop i = ys[i] :: ys.drop (i + 1) := List.drop_eq_getElem_cons hl
      rw [hd] at g2
      refine .inr ⟨h1, fun sg3 H3 => ∃ rho3 st3 env3, Mono rho1 H1 rho3 H3 ∧ EnvRep R rho3 H3 env3 sg3 ∧ StRep R rho3 st3 H3 ∧ GoodS R rho3 H3 (forSeq g b (ys.drop (i + 1)) F env3 st3) W En, fun sg3 H3 ⟨rho3, st3, env3, M3, E3, S3, g3⟩ => ⟨ys.length - (i + 1), by omega, rfl, hl, rho3, st3, env3, M3, E3, S3, g3⟩, fun v H3 hyl => ?_⟩
      obtain ⟨rho3, M3, S3, r3⟩ := h2 v H3 hyl
      have g2' : GoodS R rho2 H2 ((g ys[i] F env2 st2).at env2 _) W En := g2
      refine ⟨rho3, st2, env2, ys[i], E2.mono M3, S3, r3, (GoodS.at (E2.mono M3) (GoodS.shift M3 g2')).imp fun sg4 H4 ⟨rho4, st4, e4, M4, S4, r4, g4⟩ => ?_⟩
      refine ⟨rho4, st4, e4, r4, S4, turn_end (k := fun e st => forSeq g b (ys.drop (i + 1)) F e st) (fun rho' H' sg5 e5 st5 M5 S5 E5 g5 => ⟨rho', st5, e5, ((M2.trans M3).trans M4).trans M5, E5, S5, g5⟩) g4⟩
    · have he : i = ys.length := by omega
      subst he
      simp only [List.drop_length] at g2
      exact .inl ⟨hstop _ (Nat.le_refl _), g2 rho2 H2 sg' (Mono.refl _ _) S2 E2⟩
  | cell n k =>
    have g1 : GoodS R rho1 H1 (forCell g b n k 0 F env st1) W En := g1
    refine ⟨fun i m sg H => ∃ rho st env, Mono rho1 H1 rho H ∧ EnvRep R rho H env sg ∧ StRep R rho st H ∧ GoodS R rho H (forCell g b n m i F env st) W En,
      ⟨k, rho1, st1, env, Mono.refl _ _, hE.mono M1, S1, g1⟩, ?_⟩
    rintro i m sg' H2 ⟨rho2, st2, env2, M2, E2, S2, g2⟩
    cases m with
    | zero =>
      simp only [forCell] at g2
      split at g2
      · rename_i xs en
        split at g2
        · rename_i hl
          obtain ⟨hgo, hstop⟩ := r1 rho2 st2 H2 xs M2.toMonoV S2 en
          exact .inl ⟨hstop _ hl, g2 rho2 H2 sg' (Mono.refl _ _) S2 E2⟩
        · exact g2.elim
      · exact g2.elim
    | succ m =>
      simp only [forCell] at g2
      split at g2
      · rename_i xs en
        obtain ⟨hgo, hstop⟩ := r1 rho2 st2 H2 xs M2.toMonoV S2 en
        split at g2
        · rename_i ey
          exact .inl ⟨hstop _ (List.getElem?_eq_none_iff.mp ey), g2 rho2 H2 sg' (Mono.refl _ _) S2 E2⟩
        · rename_i y ey
          obtain ⟨h1, h2⟩ := hgo i _ ey
          refine .inr ⟨h1, fun sg3 H3 => ∃ rho3 st3 env3, Mono rho1 H1 rho3 H3 ∧ EnvRep R rho3 H3 env3 sg3 ∧ StRep R rho3 st3 H3 ∧ GoodS R rho3 H3 (forCell g b n m (i + 1) F env3 st3) W En, fun sg3 H3 ⟨rho3, st3, env3, M3, E3, S3, g3⟩ => ⟨m, Nat.lt_succ_self _, rho3, st3, env3, M3, E3, S3, g3⟩, fun v H3 hyl => ?_⟩
          obtain ⟨rho3, M3, S3, r3⟩ := h2 v H3 hyl
          refine ⟨rho3, st2, env2, y, E2.mono M3, S3, r3, (GoodS.at (E2.mono M3) (GoodS.shift M3 g2)).imp fun sg4 H4 ⟨rho4, st4, e4, M4, S4, r4, g4⟩ => ?_⟩
          exact ⟨rho4, st4, e4, r4, S4, turn_end (k := fun e st => forCell g b n m (i + 1) F e st) (fun rho' H' sg5 e5 st5 M5 S5 E5 g5 => ⟨rho', st5, e5, ((M2.trans M3).trans M4).trans M5, E5, S5, g5⟩) g4⟩
      · exact g2.elim
theorem ts_while {t : D Bool} {b : SD} {En : Ends} {sg : St} {H : Hp} (h : tS R F W (sWhile t b) En sg H) : tWhile (tB2 R F W t) (tS R F W b) En sg H := by
  obtain ⟨rho, st, env, hE, hS, gd⟩ := h
  refine ⟨fun m sg H => ∃ rho st env, EnvRep R rho H env sg ∧ StRep R rho st H ∧ GoodS R rho H (whileN t b m F env st) W En, ⟨1000000, rho, st, env, hE, hS, gd⟩, ?_⟩
  rintro m sg' H2 ⟨rho2, st2, env2, E2, S2, g2⟩
  cases m with
  | zero => exact g2.elim
  | succ m =>
    have g2 : GoodS R rho2 H2 ((t F env2 st2).at env2 _) W En := g2
    refine ⟨rho2, st2, env2, E2, S2, (GoodS.at E2 g2).imp fun c H3 ⟨rho3, st3, x, M3, S3, r3, g3⟩ => ?_⟩
    subst r3
    cases x with
    | true =>
      refine iteT ⟨fun sg4 H4 => ∃ rho st env, EnvRep R rho H4 env sg4 ∧ StRep R rho st H4 ∧ GoodS R rho H4 (whileN t b m F env st) W En, fun sg4 H4 q => ⟨m, Nat.lt_succ_self _, q⟩, ?_⟩
      exact ⟨rho3, st3, env2, E2.mono M3, S3, turn_end (k := fun e st => whileN t b m F e st) (fun rho' H' sg5 e5 st5 M5 S5 E5 g5 => ⟨rho', st5, e5, E5, S5, g5⟩) g3⟩
    | false => exact iteF (g3 rho3 H3 sg' (Mono.refl _ _) S3 (E2.mono M3))
/-! ### comprehensions -/
theorem wipe_rep {rho : Rho} {H : Hp} {env : LEnv} {sg : St} (h : EnvRep R rho H env sg) : ∀ vs : List Nat, EnvRep R rho H (wipeE env vs) (wipe sg vs)
  | [] => h
  | v :: vs => by
    have ih := wipe_rep h vs
    show EnvRep R rho H ((wipeE env vs).set v none) ((wipe sg vs).set v none)
    refine ⟨by simp [ih.len], fun i x e => ?_⟩
    by_cases hi : i = v
    · subst hi
      by_cases hl : i < (wipeE env vs).length
      · rw [List.getElem?_set_self hl] at e; cases e
      · rw [List.getElem?_eq_none (by simpa using hl)] at e; cases e
    · rw [List.getElem?_set_ne (Ne.symm hi)] at e ⊢
      exact ih.at_ i x e
theorem good_noX {α β : Type} {rel : Rho → Hp → α → β → Prop} {rho : Rho} {H : Hp} {r : Res α} {Wx Wy : Value → Option Addr → Hp → Prop} {Q : β → Hp → Prop} (g : Good R rel rho H (noX r) Wx Q) : Good R rel rho H r Wy Q := by
  cases r with
  | ok a s => exact g
  | exc c ks xs s => exact g.elim
  | bad => exact g
theorem noX_bnd {α β γ δ : Type} {rel : Rho → Hp → α → β → Prop} {rel2 : Rho → Hp → γ → δ → Prop} {rho : Rho} {H : Hp} {m : Res α} {f : α → Sto → Res γ} {Wx Wy : Value → Option Addr → Hp → Prop} {Q : δ → Hp → Prop} (g : Good R rel2 rho H ((noX m).bnd f) Wx Q) :
    Good R rel rho H m Wy (fun b H1 => ∃ rho1 st1 a, Mono rho H rho1 H1 ∧ StRep R rho1 st1 H1 ∧ rel rho1 H1 a b ∧ Good R rel2 rho1 H1 (f a st1) Wx Q) := good_noX (Good.bnd g)
/-! ### a comprehension's target -/
def hGs : List Nat → TGs
  | [] => gNil
  | i :: r => gCons (gName i) (hGs r)
def hG (K : PySem.W.Frag) : CTg → TG
  | .nm i => gName i
  | .tp is => gTup K is.length (hGs is)
def cIx : CTg → List Nat
  | .nm i => [i]
  | .tp is => is
theorem wipe_get {sg : St} : ∀ {vs : List Nat} {i : Nat}, (wipe sg vs)[i]? = if i ∈ vs then (if i < sg.length then some none else none) else sg[i]?
  | [], i => by simp [wipe]
  | v :: vs, i => by
    have ih := @wipe_get sg vs i
    show ((wipe sg vs).set v none)[i]? = _
    by_cases hi : i = v
    · subst hi
      by_cases hl : i < sg.length
      · rw [List.getElem?_set_self (by rw [wipe_length]; exact hl)]
        simp [hl]
      · rw [List.getElem?_eq_none (by rw [List.length_set, wipe_length]; omega)]
        simp [hl]
    · rw [List.getElem?_set_ne (Ne.symm hi), ih]
      simp [hi]
theorem wipe_set {sg : St} {vs : List Nat} {i : Nat} {x : Option V} (h : i ∈ vs) : wipe (sg.set i x) vs = wipe sg vs := by
  refine List.ext_getElem? fun j => ?_
  rw [wipe_get, wipe_get]
  by_cases hj : j ∈ vs
  · simp [hj]
  · have : i ≠ j := fun e => hj (by rw [← e]; exact h)
    simp [hj, List.getElem?_set_ne this]
theorem wipe_wipe {sg : St} {vs : List Nat} : wipe (wipe sg vs) vs = wipe sg vs := by
  refine List.ext_getElem? fun j => ?_
  rw [wipe_get, wipe_get]
  by_cases hj : j ∈ vs
  · simp [hj, wipe_length]
  · simp [hj]
theorem hGs_ok {rho : Rho} {H : Hp} {st : Sto} {Q : St → Hp → Prop} : ∀ {is : List Nat} {xs : List PV} {vs : List V} {e e1 : LEnv} {sg : St} {s1 : Sto} {wv : List Nat}, EnvRep R rho H e sg → RepVs R rho H xs vs → gEach (is.map gNm) xs F e st = .ok e1 s1 → (∀ i ∈ is, i ∈ wv) →
    (∀ sg2, EnvRep R rho H e1 sg2 → wipe sg2 wv = wipe sg wv → s1 = st → Q sg2 H) → hGs is vs sg H Q
  | [], xs, vs, e, e1, sg, s1, wv, hE, r, he, _, k => by
    cases xs with
    | nil =>
      simp only [RepVs] at r; subst r
      simp only [List.map_nil, gEach] at he
      cases he
      exact ⟨rfl, k sg hE rfl rfl⟩
    | cons x xs => simp only [List.map_nil, gEach] at he; cases he
  | i :: is, xs, vs, e, e1, sg, s1, wv, hE, r, he, hi, k => by
    cases xs with
    | nil => simp only [List.map_cons, gEach] at he; cases he
    | cons x xs =>
      simp only [RepVs] at r
      obtain ⟨v, r', ev, h1, h2⟩ := r
      subst ev
      have he : gEach (is.map gNm) xs F (e.set i (some x)) st = .ok e1 s1 := he
      refine ⟨v, r', rfl, hGs_ok (hE.set i h1) h2 he (fun j hj => hi j (List.mem_cons_of_mem _ hj)) fun sg2 E2 w2 es => k sg2 E2 ?_ es⟩
      rw [w2, wipe_set (hi i List.mem_cons_self)]
theorem hG_ok {rho : Rho} {H : Hp} {st s1 : Sto} {Q : St → Hp → Prop} {c : CTg} {x : PV} {v : V} {e e1 : LEnv} {sg : St} {wv : List Nat} (hE : EnvRep R rho H e sg) (r : RepV R rho H x v) (he : cG c x F e st = .ok e1 s1) (hi : ∀ i ∈ cIx c, i ∈ wv)
    (k : ∀ sg2, EnvRep R rho H e1 sg2 → wipe sg2 wv = wipe sg wv → s1 = st → Q sg2 H) : hG R.K c v sg H Q := by
  cases c with
  | nm i =>
    have he : Res.ok (e.set i (some x)) st = .ok e1 s1 := he
    cases he
    exact k _ (hE.set i r) (wipe_set (hi i List.mem_cons_self)) rfl
  | tp is =>
    cases x with
    | tup xs =>
      simp only [RepV] at r
      obtain ⟨a, vs, ev, t, rs⟩ := r
      simp only [cG, gTp] at he
      split at he
      · rename_i hl
        have he : gEach (is.map gNm) xs F e st = .ok e1 s1 := by
          cases eg : gEach (is.map gNm) xs F e st with
          | ok a s => rw [eg] at he; exact he
          | bad => rw [eg] at he; cases he
          | exc c ks ys s => rw [eg] at he; cases he
        exact ⟨a, vs, ev, t.sq, by rw [← rs.length, hl]; simp, hGs_ok hE rs he hi k⟩
      · cases he
    | _ => simp only [cG, gTp] at he; cases he
/-! ### the list that is being made -/
theorem lst_nt {H : Hp} {a : Addr} {vs : List V} (h : H a = some (.lst vs)) : ∀ ps, H a ≠ some (.tbl ps) := fun ps z => by
  rw [h] at z
  cases z
theorem lst_not {vs : List V} : NotT (.lst vs) := ⟨fun _ z => by (cases z), fun _ _ z => by (unfold LamX.CodeO at z; cases z)⟩
theorem hold_step {rho1 rho rhoX : Rho} {H1 H H' : Hp} {st : Sto} {Dl : Addr} (h1 : H1 Dl = none) (M : Mono rho1 H1 rho H) (S : Mono (rho.hold Dl) H rhoX H') (SX : StRep R rhoX st H') :
    rhoX = (⟨rhoX.cs, rho.ex⟩ : Rho).hold Dl ∧ Mono rho1 H1 ⟨rhoX.cs, rho.ex⟩ H' := by
  have ex : rhoX.ex = Dl :: rho.ex := S.ex
  refine ⟨by cases rhoX; simp only [Rho.hold] at ex ⊢; rw [ex], ⟨⟨fun a o e d => ?_, fun a o e d => ?_, ?_, fun n a hn e => ?_⟩, M.ex, fun a e _ => ?_⟩⟩
  · have hne : a ≠ Dl := ne_of_none e h1
    have d2 := M.dead a o e d
    exact S.keep a o (M.keep a o e d) ⟨d2.1, fun q => (List.mem_cons.mp q).elim hne d2.2⟩
  · have hne : a ≠ Dl := ne_of_none e h1
    have d2 := M.dead a o e d
    have d3 := S.dead a o (M.keep a o e d) ⟨d2.1, fun q => (List.mem_cons.mp q).elim hne d2.2⟩
    exact ⟨d3.1, d2.2⟩
  · exact Nat.le_trans M.len S.len
  · exact M.old n a hn (S.old n a (Nat.lt_of_lt_of_le hn M.len) e)
  · rename_i nt
    have z := M.held a e nt
    rw [S.held a (List.mem_cons_of_mem _ (by rw [M.ex]; exact e)) (by rw [z]; exact nt)]
    exact z
theorem hold_write {rho1 rho : Rho} {H1 H : Hp} {st1 : Sto} {Dl : Addr} {o : HO} (S1 : StRep R rho1 st1 H1) (h1 : H1 Dl = none) (M : Mono rho1 H1 rho H) : Mono rho1 H1 rho (upd H Dl o) :=
  ⟨⟨fun a u e d => by rw [upd_ne (ne_of_none e h1)]; exact M.keep a u e d, M.dead, M.len, M.old⟩, M.ex, fun a e n => by rw [upd_ne (S1.heldNe h1 e)]; exact M.held a e n⟩
theorem hold_val {rho1 rho : Rho} {H1 H : Hp} {Dl : Addr} (h1 : H1 Dl = none) (M : Mono rho1 H1 rho H) : MonoV rho1 H1 (rho.hold Dl) H :=
  ⟨M.keep, fun a o e d => ⟨(M.dead a o e d).1, fun q => (List.mem_cons.mp q).elim (ne_of_none e h1) (M.dead a o e d).2⟩, M.len, M.old⟩
/-- the state between two turns -/
structure CompAt (R : RC) (rho1 : Rho) (H1 : Hp) (Dl : Addr) (rho : Rho) (st : Sto) (H : Hp) (acc : List PV) : Prop where
  m : Mono rho1 H1 rho H
  s : StRep R (rho.hold Dl) st H
  a : ∃ vs, H Dl = some (.lst vs) ∧ RepVs R (rho.hold Dl) H acc vs
/-- one turn -/
theorem comp_turn {rho1 rho : Rho} {st1 st : Sto} {H1 H : Hp} {Dl : Addr} {acc : List PV} {env : LEnv} {sg : St} {wv : List Nat} {c : CTg} {t : D Bool} {m : D PV} {y : PV} {v : V} {Nx : Hp → Prop} {rest : Sto → Res (List PV)} {Wx : Value → Option Addr → Hp → Prop} {mt : Bool} {Q : VK}
    (hx : ∀ s a b c d, rest s ≠ .exc a b c d) (S1 : StRep R rho1 st1 H1) (hn : H1 Dl = none) (E1 : EnvRep R rho1 H1 env sg) (C : CompAt R rho1 H1 Dl rho st H acc) (rv : RepV R (rho.hold Dl) H y v) (hi : ∀ i ∈ cIx c, i ∈ wv)
    (g : Good R (RepV R) rho1 H1 (((noX (cG c y F (wipeE env wv) st)).bnd fun e1 s1 => (noX (t F e1 s1)).bnd fun b s2 => if b then (noX (m F e1 s2)).bnd fun z s3 => (rest s3).bnd fun zs s4 => .ok (z :: zs) s4 else rest s2).bnd fun zs s1 => if (acc ++ zs).length ≤ 16777216 then newL mt (acc ++ zs) s1 else .bad) Wx Q)
    (hN : ∀ rho' st' H' acc', CompAt R rho1 H1 Dl rho' st' H' acc' → Good R (RepV R) rho1 H1 ((rest st').bnd fun zs s1 => if (acc' ++ zs).length ≤ 16777216 then newL mt (acc' ++ zs) s1 else .bad) Wx Q → Nx H') :
    hG R.K c v (wipe sg wv) H fun sg2 H2 => wipe sg2 wv = wipe sg wv ∧ tB2 R F (fun _ _ _ _ => False) t sg2 H2 fun b H3 =>
      if b = true then tE R F (fun _ _ _ _ => False) m sg2 H3 fun y H4 => ∃ ac, H4 Dl = some (.lst ac) ∧ ac.length < sizeLine ∧ Nx (upd H4 Dl (.lst (ac ++ [y]))) else Nx H3 := by
  have EW : EnvRep R (rho.hold Dl) H (wipeE env wv) (wipe sg wv) := wipe_rep (E1.monoV (hold_val hn C.m)) wv
  cases e1 : cG c y F (wipeE env wv) st with
  | bad => rw [e1] at g; exact g.elim
  | exc a b d s => rw [e1] at g; exact g.elim
  | ok e2 s2 =>
    rw [e1] at g
    refine hG_ok (wv := wv) EW rv e1 hi fun sg2 E2 w2 es => ⟨by rw [w2, wipe_wipe], ?_⟩
    subst es
    have g : Good R (RepV R) rho1 H1 (((noX (t F e2 s2)).bnd fun b s2 => if b then (noX (m F e2 s2)).bnd fun z s3 => (rest s3).bnd fun zs s4 => .ok (z :: zs) s4 else rest s2).bnd fun zs s1 => if (acc ++ zs).length ≤ 16777216 then newL mt (acc ++ zs) s1 else .bad) Wx Q := g
    refine ⟨rho.hold Dl, s2, e2, E2, C.s, ?_⟩
    cases e3 : t F e2 s2 with
    | bad => rw [e3] at g; exact g.elim
    | exc a b d s => rw [e3] at g; exact g.elim
    | ok b s3 =>
      rw [e3] at g
      refine fun rhoX H3 b' MX SX eb => ?_
      subst eb
      obtain ⟨ex, M3⟩ := hold_step hn C.m MX SX
      cases b with
      | false =>
        refine iteF (hN ⟨rhoX.cs, rho.ex⟩ s3 H3 acc ⟨M3, by rw [← ex]; exact SX, ?_⟩ g)
        obtain ⟨vs, h1, h2⟩ := C.a
        exact ⟨vs, by rw [MX.held Dl List.mem_cons_self (lst_nt h1)]; exact h1, by rw [← ex]; exact h2.mono MX⟩
      | true =>
        have g : Good R (RepV R) rho1 H1 (((noX (m F e2 s3)).bnd fun z s3 => (rest s3).bnd fun zs s4 => .ok (z :: zs) s4).bnd fun zs s1 => if (acc ++ zs).length ≤ 16777216 then newL mt (acc ++ zs) s1 else .bad) Wx Q := g
        refine iteT ⟨rhoX, s3, e2, E2.mono MX, SX, ?_⟩
        cases e4 : m F e2 s3 with
        | bad => rw [e4] at g; exact g.elim
        | exc a b d s => rw [e4] at g; exact g.elim
        | ok z s4 =>
          rw [e4] at g
          have g : Good R (RepV R) rho1 H1 (((rest s4).bnd fun zs s4 => .ok (z :: zs) s4).bnd fun zs s1 => if (acc ++ zs).length ≤ 16777216 then newL mt (acc ++ zs) s1 else .bad) Wx Q := g
          refine fun rhoY H4 w MY SY rw' => ?_
          obtain ⟨vs, h1, h2⟩ := C.a
          have hD3 : H3 Dl = some (.lst vs) := by rw [MX.held Dl List.mem_cons_self (lst_nt h1)]; exact h1
          have hin : Dl ∈ rhoX.ex := by rw [ex]; exact List.mem_cons_self
          have hD4 : H4 Dl = some (.lst vs) := by rw [MY.held Dl hin (lst_nt hD3)]; exact hD3
          have MXY : Mono (rho.hold Dl) H rhoY H4 := MX.trans MY
          obtain ⟨ey, M4⟩ := hold_step hn C.m MXY SY
          have hinY : Dl ∈ rhoY.ex := by rw [ey]; exact List.mem_cons_self
          have h2' : RepVs R rhoY H4 acc vs := h2.mono MXY
          cases e5 : rest s4 with
          | bad => rw [e5] at g; exact g.elim
          | exc a b d s => exact absurd e5 (hx _ _ _ _ _)
          | ok zs s5 =>
            rw [e5] at g
            have g : Good R (RepV R) rho1 H1 (if (acc ++ (z :: zs)).length ≤ 16777216 then newL mt (acc ++ (z :: zs)) s5 else .bad) Wx Q := g
            have hlen : (acc ++ (z :: zs)).length ≤ 16777216 := by
              by_cases hz : (acc ++ (z :: zs)).length ≤ 16777216
              · exact hz
              · rw [if_neg hz] at g; exact g.elim
            refine ⟨vs, hD4, ?_, hN ⟨rhoY.cs, rho.ex⟩ s4 _ (acc ++ [z]) ⟨hold_write S1 hn M4, by rw [← ey]; exact SY.held hinY ⟨_, hD4, lst_not⟩, ⟨vs ++ [w], upd_same, ?_⟩⟩ ?_⟩
            · rw [sizeLine_eq, ← h2'.length]
              simp at hlen
              omega
            · rw [← ey]; exact RepVs.monoV (MonoV.held hinY) _ _ (h2'.append (RepVs.cons rw' (by simp only [RepVs])))
            · rw [e5]
              show Good R (RepV R) rho1 H1 (if ((acc ++ [z]) ++ zs).length ≤ 16777216 then newL mt ((acc ++ [z]) ++ zs) s5 else .bad) Wx Q
              rw [List.append_assoc]
              exact g
theorem compSeq_nox {g : G} {t : D Bool} {m : D PV} : ∀ {ys : List PV} {e : LEnv} {s : Sto} {a b c d}, compSeq g t m ys F e s ≠ .exc a b c d
  | [], e, s, a, b, c, d, q => by simp only [compSeq] at q; cases q
  | y :: ys, e, s, a, b, c, d, q => by
    simp only [compSeq] at q
    cases e1 : g y F e s with
    | bad => rw [e1] at q; cases q
    | exc _ _ _ _ => rw [e1] at q; cases q
    | ok e2 s2 =>
      rw [e1] at q
      simp only [noX, Res.bnd] at q
      cases e3 : t F e2 s2 with
      | bad => rw [e3] at q; cases q
      | exc _ _ _ _ => rw [e3] at q; cases q
      | ok b2 s3 =>
        rw [e3] at q
        simp only at q
        split at q
        · cases e4 : m F e2 s3 with
          | bad => rw [e4] at q; cases q
          | exc _ _ _ _ => rw [e4] at q; cases q
          | ok z s4 =>
            rw [e4] at q
            simp only at q
            cases e5 : compSeq g t m ys F e s4 with
            | bad => rw [e5] at q; cases q
            | exc _ _ _ _ => exact compSeq_nox e5
            | ok zs s5 => rw [e5] at q; cases q
        · exact compSeq_nox q
theorem compCell_nox {g : G} {t : D Bool} {m : D PV} {n : Nat} : ∀ {k i : Nat} {e : LEnv} {s : Sto} {a b c d}, compCell g t m n k i F e s ≠ .exc a b c d
  | 0, i, e, s, a, b, c, d, q => by
    simp only [compCell] at q
    split at q
    · split at q <;> cases q
    · cases q
  | k + 1, i, e, s, a, b, c, d, q => by
    simp only [compCell] at q
    split at q
    · split at q
      · cases q
      · rename_i y _
        cases e1 : g y F e s with
        | bad => rw [e1] at q; cases q
        | exc _ _ _ _ => rw [e1] at q; cases q
        | ok e2 s2 =>
          rw [e1] at q
          simp only [noX, Res.bnd] at q
          cases e3 : t F e2 s2 with
          | bad => rw [e3] at q; cases q
          | exc _ _ _ _ => rw [e3] at q; cases q
          | ok b2 s3 =>
            rw [e3] at q
            simp only at q
            split at q
            · cases e4 : m F e2 s3 with
              | bad => rw [e4] at q; cases q
              | exc _ _ _ _ => rw [e4] at q; cases q
              | ok z s4 =>
                rw [e4] at q
                simp only at q
                cases e5 : compCell g t m n k (i + 1) F e s4 with
                | bad => rw [e5] at q; cases q
                | exc _ _ _ _ => exact compCell_nox e5
                | ok zs s5 => rw [e5] at q; cases q
            · exact compCell_nox q
    · cases q
/-- the last turn: the list is handed on -/
theorem comp_end {rho1 rho : Rho} {st1 st : Sto} {H1 H : Hp} {Dl : Addr} {acc : List PV} {Wx : Value → Option Addr → Hp → Prop} {mt : Bool} {Q : VK} (S1 : StRep R rho1 st1 H1) (hn : H1 Dl = none) (C : CompAt R rho1 H1 Dl rho st H acc)
    (g : Good R (RepV R) rho1 H1 (if acc.length ≤ 16777216 then newL mt acc st else .bad) Wx Q) : Q (.ref Dl) H := by
  split at g
  · obtain ⟨vs, h1, h2⟩ := C.a
    have S2 : StRep R rho st H := C.s.drop ⟨_, h1, lst_not⟩
    have D1 : Dead rho Dl := ⟨fun n e => C.s.apart n Dl e List.mem_cons_self, fun e => by
      rw [C.m.ex] at e
      exact (S1.deadOf hn).2 e⟩
    have r2 : RepVs R rho H acc vs := RepVs.monoV MonoV.drop _ _ h2
    cases mt with
    | false => exact g rho H (.ref Dl) C.m S2 (by simp only [RepV]; exact ⟨Dl, vs, rfl, h1, D1, r2⟩)
    | true =>
      have M2 : Mono rho1 H1 (rho.push Dl) H := by
        refine ⟨⟨C.m.keep, fun a o e d => ⟨fun n q => ?_, (C.m.dead a o e d).2⟩, Nat.le_trans C.m.len (by simp [Rho.push]), fun n a hl e => ?_⟩, C.m.ex, C.m.held⟩
        · have q : (rho.cs ++ [some Dl])[n]? = some (some a) := q
          by_cases hl : n < rho.cs.length
          · rw [List.getElem?_append_left hl] at q
            exact (C.m.dead a o e d).1 n q
          · have hn2 : n = rho.cs.length := by
              have := (List.getElem?_eq_some_iff.mp q).1
              simp at this; omega
            subst hn2
            rw [get_push] at q
            cases q
            rw [hn] at e; cases e
        · have e : (rho.cs ++ [some Dl])[n]? = some (some a) := e
          rw [List.getElem?_append_left (Nat.lt_of_lt_of_le hl C.m.len)] at e
          exact C.m.old n a hl e
      have MV : MonoV (rho.hold Dl) H (rho.push Dl) H := by
        refine ⟨fun _ _ e _ => e, fun a o e d => ⟨fun n q => ?_, fun q => d.2 (List.mem_cons_of_mem _ q)⟩, by simp [Rho.push, Rho.hold], fun n a hl e => ?_⟩
        · have q : (rho.cs ++ [some Dl])[n]? = some (some a) := q
          by_cases hl : n < rho.cs.length
          · rw [List.getElem?_append_left hl] at q
            exact d.1 n q
          · have hn2 : n = rho.cs.length := by
              have := (List.getElem?_eq_some_iff.mp q).1
              simp at this; omega
            subst hn2
            rw [get_push] at q
            cases q
            exact d.2 List.mem_cons_self
        · have e : (rho.cs ++ [some Dl])[n]? = some (some a) := e
          have hl : n < rho.cs.length := hl
          rw [List.getElem?_append_left hl] at e
          exact e
      have S3 : StRep R (rho.push Dl) (st ++ [.lst acc]) H := by
        refine ⟨by simp [Rho.push, S2.len], fun n m a e1 e2 => ?_, fun n k e => ?_, fun n a e => ?_, S2.res, S2.tab, S2.tin⟩
        · have e1 : (rho.cs ++ [some Dl])[n]? = some (some a) := e1
          have e2 : (rho.cs ++ [some Dl])[m]? = some (some a) := e2
          have key : ∀ j, (rho.cs ++ [some Dl])[j]? = some (some a) → (j < rho.cs.length ∧ rho.cs[j]? = some (some a)) ∨ (j = rho.cs.length ∧ a = Dl) := fun j q => by
            by_cases hl : j < rho.cs.length
            · rw [List.getElem?_append_left hl] at q
              exact .inl ⟨hl, q⟩
            · have hn2 : j = rho.cs.length := by
                have := (List.getElem?_eq_some_iff.mp q).1
                simp at this; omega
              subst hn2
              rw [get_push] at q
              cases q
              exact .inr ⟨rfl, rfl⟩
          rcases key n e1 with ⟨_, k1⟩ | ⟨k1, k1'⟩
          · rcases key m e2 with ⟨_, k2⟩ | ⟨k2, k2'⟩
            · exact S2.inj n m a k1 k2
            · subst k2'; exact absurd k1 (D1.1 n)
          · rcases key m e2 with ⟨_, k2⟩ | ⟨k2, k2'⟩
            · subst k1'; exact absurd k2 (D1.1 m)
            · rw [k1, k2]
        · by_cases hl : n < st.length
          · rw [List.getElem?_append_left hl] at e
            refine (C.s.cell n k e).stay MV (fun a u q1 q2 => ⟨q2, ?_⟩) fun q1 => ?_
            · show (rho.cs ++ [some Dl])[n]? = _
              rw [List.getElem?_append_left (by rw [S2.len]; exact hl)]; exact q1
            · show (rho.cs ++ [some Dl])[n]? = _
              rw [List.getElem?_append_left (by rw [S2.len]; exact hl)]; exact q1
          · have hn2 : n = st.length := by
              have := (List.getElem?_eq_some_iff.mp e).1
              simp at this; omega
            subst hn2
            rw [get_push] at e
            cases e
            refine ⟨Dl, vs, ?_, h1, RepVs.monoV MV _ _ h2⟩
            show (rho.cs ++ [some Dl])[st.length]? = _
            rw [← S2.len, get_push]
        · have e : (rho.cs ++ [some Dl])[n]? = some (some a) := e
          by_cases hl : n < rho.cs.length
          · rw [List.getElem?_append_left hl] at e
            exact S2.apart n a e
          · have hn2 : n = rho.cs.length := by
              have := (List.getElem?_eq_some_iff.mp e).1
              simp at this; omega
            subst hn2
            rw [get_push] at e
            cases e
            exact D1.2
      refine g (rho.push Dl) H (.ref Dl) M2 S3 ?_
      simp only [RepV]
      refine ⟨Dl, rfl, by rw [← S2.len]; simp [Rho.push], fun b hb => ?_⟩
      have hb : (rho.cs ++ [some Dl])[st.length]? = some (some b) := hb
      rw [← S2.len, get_push] at hb
      cases hb
      rfl
  · exact g.elim
theorem tc_comp {mt : Bool} {src : D Src} {vs : List Nat} {c : CTg} {t : D Bool} {m : D PV} {sg : St} {H : Hp} {Q : VK} (hi : ∀ i ∈ cIx c, i ∈ vs) (h : tE R F W (dComp mt src vs c t m) sg H Q) :
    tLc (tI R F W src) (hG R.K c) (tB2 R F (fun _ _ _ _ => False) t) (tE R F (fun _ _ _ _ => False) m) vs sg H Q := by
  obtain ⟨rho, st, env, hE, hS, gd⟩ := h
  refine ⟨rho, st, env, hE, hS, (Good.bnd gd).imp fun J H1 ⟨rho1, st1, y, M1, S1, r1, g1⟩ => fun Dl hn => ?_⟩
  have E1 := hE.mono M1
  have C0 : CompAt R rho1 H1 Dl rho1 st1 (upd H1 Dl (.lst [])) [] := ⟨hold_write S1 hn (Mono.refl _ _), S1.hold hn, ⟨[], upd_same, by simp only [RepVs]⟩⟩
  have hold : ∀ {rho2 rho3 : Rho} {st2 : Sto} {H2 H3 : Hp} {acc : List PV}, CompAt R rho1 H1 Dl rho2 st2 H2 acc → Mono (rho2.hold Dl) H2 rho3 H3 → StRep R rho3 st2 H3 → rho3 = (⟨rho3.cs, rho2.ex⟩ : Rho).hold Dl ∧ CompAt R rho1 H1 Dl ⟨rho3.cs, rho2.ex⟩ st2 H3 acc := by
    intro rho2 rho3 st2 H2 H3 acc C M S
    obtain ⟨ex, M3⟩ := hold_step hn C.m M S
    obtain ⟨vs', k1, k2⟩ := C.a
    exact ⟨ex, M3, by rw [← ex]; exact S, vs', by rw [M.held Dl List.mem_cons_self (lst_nt k1)]; exact k1, by rw [← ex]; exact k2.mono M⟩
  cases y with
  | seq ys =>
    refine ⟨fun i k H => k = ys.length - i ∧ i ≤ ys.length ∧ ∃ rho st acc, CompAt R rho1 H1 Dl rho st H acc ∧ Good R (RepV R) rho1 H1 ((compSeq (cG c) t m (ys.drop i) F (wipeE env vs) st).bnd fun zs s1 => if (acc ++ zs).length ≤ 16777216 then newL mt (acc ++ zs) s1 else .bad) (fun cls d H' => W cls d sg H') Q,
      ⟨ys.length, by simp, Nat.zero_le _, rho1, st1, [], C0, by simpa using g1⟩, ?_⟩
    rintro i k H2 ⟨rfl, hl, rho2, st2, acc, C, g2⟩
    obtain ⟨hgo, hstop⟩ := r1 (rho2.hold Dl) st2 H2 (hold_val hn C.m) C.s
    by_cases hlt : i < ys.length
    · have hy : ys[i]? = some ys[i] := List.getElem?_eq_getElem hlt
      obtain ⟨h1, h2⟩ := hgo i _ hy
      have hd : ys.drop i = ys[i] :: ys.drop (i + 1) := List.drop_eq_getElem_cons hlt
      rw [hd] at g2
      refine .inr ⟨h1, fun H3 => ∃ rho st acc, CompAt R rho1 H1 Dl rho st H3 acc ∧ Good R (RepV R) rho1 H1 ((compSeq (cG c) t m (ys.drop (i + 1)) F (wipeE env vs) st).bnd fun zs s1 => if (acc ++ zs).length ≤ 16777216 then newL mt (acc ++ zs) s1 else .bad) (fun cls d H' => W cls d sg H') Q, fun H3 q => ⟨ys.length - (i + 1), by omega, rfl, hlt, q⟩, fun v H3 hyl => ?_⟩
      obtain ⟨rho3, M3, S3, r3⟩ := h2 v H3 hyl
      obtain ⟨ex, C3⟩ := hold C M3 S3
      exact comp_turn (rest := fun s => compSeq (cG c) t m (ys.drop (i + 1)) F (wipeE env vs) s) (fun _ _ _ _ _ => compSeq_nox) S1 hn E1 C3 (by rw [← ex]; exact r3) hi g2 fun rho' st' H' acc' C' g' => ⟨rho', st', acc', C', g'⟩
    · have he : i = ys.length := by omega
      subst he
      simp only [List.drop_length, compSeq, Res.bnd, List.append_nil] at g2
      exact .inl ⟨hstop _ (Nat.le_refl _), comp_end S1 hn C g2⟩
  | cell n k0 =>
    refine ⟨fun i k H => ∃ rho st acc, CompAt R rho1 H1 Dl rho st H acc ∧ Good R (RepV R) rho1 H1 ((compCell (cG c) t m n k i F (wipeE env vs) st).bnd fun zs s1 => if (acc ++ zs).length ≤ 16777216 then newL mt (acc ++ zs) s1 else .bad) (fun cls d H' => W cls d sg H') Q,
      ⟨k0, rho1, st1, [], C0, by simpa using g1⟩, ?_⟩
    rintro i k H2 ⟨rho2, st2, acc, C, g2⟩
    cases k with
    | zero =>
      simp only [compCell] at g2
      split at g2
      · rename_i xs en
        split at g2
        · rename_i hl
          obtain ⟨hgo, hstop⟩ := r1 (rho2.hold Dl) st2 H2 xs (hold_val hn C.m) C.s en
          simp only [Res.bnd, List.append_nil] at g2
          exact .inl ⟨hstop _ hl, comp_end S1 hn C g2⟩
        · exact g2.elim
      · exact g2.elim
    | succ k =>
      simp only [compCell] at g2
      split at g2
      · rename_i xs en
        obtain ⟨hgo, hstop⟩ := r1 (rho2.hold Dl) st2 H2 xs (hold_val hn C.m) C.s en
        split at g2
        · rename_i ey
          simp only [Res.bnd, List.append_nil] at g2
          exact .inl ⟨hstop _ (List.getElem?_eq_none_iff.mp ey), comp_end S1 hn C g2⟩
        · rename_i y ey
          obtain ⟨h1, h2⟩ := hgo i _ ey
          refine .inr ⟨h1, fun H3 => ∃ rho st acc, CompAt R rho1 H1 Dl rho st H3 acc ∧ Good R (RepV R) rho1 H1 ((compCell (cG c) t m n k (i + 1) F (wipeE env vs) st).bnd fun zs s1 => if (acc ++ zs).length ≤ 16777216 then newL mt (acc ++ zs) s1 else .bad) (fun cls d H' => W cls d sg H') Q, fun H3 q => ⟨k, Nat.lt_succ_self _, q⟩, fun v H3 hyl => ?_⟩
          obtain ⟨rho3, M3, S3, r3⟩ := h2 v H3 hyl
          obtain ⟨ex, C3⟩ := hold C M3 S3
          exact comp_turn (rest := fun s => compCell (cG c) t m n k (i + 1) F (wipeE env vs) s) (fun _ _ _ _ _ => compCell_nox) S1 hn E1 C3 (by rw [← ex]; exact r3) hi g2 fun rho' st' H' acc' C' g' => ⟨rho', st', acc', C', g'⟩
      · exact g2.elim
end
end OL
set_option maxRecDepth 100000
set_option maxHeartbeats 0
/-! ## a, b = a list -/
namespace OL
open PySem PySem.Spec
open PyProof.Rows L2
section
variable {prog : Program} {w : World} {A : Around} {E : Value → Shared → Prop} {s : Shared}
theorem draw_lst {it l : Addr} {vs : Array Value} (hne : l ≠ it) : ∀ (n i : Nat) (s : Shared) (Q : List Value → Shared → Prop), s.heap.IsListIter it l i → s.heap.IsList l vs → i + n ≤ vs.size →
    (∀ h', h'.IsListIter it l (i + n) → Heap.SameBut it s.heap h' → Q ((vs.toList.drop i).take n) { s with heap := h' }) → wpAny (model prog w) A (draw (.ref it) n) Q E s
  | 0, i, s, Q, hit, _, _, hQ => wpAny_pure (by simpa using hQ s.heap hit (Heap.SameBut.refl ..))
  | n + 1, i, s, Q, hit, hl, hle, hQ => by
    have hlt : i < vs.size := by omega
    show wpAny _ _ (pyNext (.ref it) >>= _) Q E s
    refine wpAny_bind (wpAny_pyNext_list_item hit hl (x := vs[i]) (by simp [hlt]) fun h1 k1 s1 => ?_)
    refine wpAny_bind (wpAny_holding (draw_lst hne n (i + 1) _ _ k1 (hl.extBut s1.extBut hne) (by omega) fun h2 k2 s2 => wpAny_pure ?_))
    have hd : vs.toList.drop i = vs[i] :: vs.toList.drop (i + 1) := by simp [List.drop_eq_getElem_cons, hlt]
    have z := hQ h2 (by rw [show i + (n + 1) = i + 1 + n by omega]; exact k2) (s1.trans s2)
    rw [hd, List.take_succ_cons] at z
    exact z
theorem unpack_lst {l : Addr} {vs : Array Value} {targets : List (Bool × (Value → Sem Unit))} {Q : Unit → Shared → Prop} (hh : A.handled = none) (hl : s.heap.IsList l vs) (hn : targets.length = vs.size) (hs : targets.findIdx? (·.1) = none)
    (h : ∀ h', Heap.ExtBut s.heap.objs.size s.heap h' → wpAny (model prog w) A (assignInOrder (targets.map (·.2)) vs.toList) Q E { s with heap := h' }) : wpAny (model prog w) A (unpack (.ref l) targets) Q E s := by
  have ne : l ≠ s.heap.objs.size := by
    obtain ⟨o, ho, _⟩ := hl
    exact Nat.ne_of_lt (Heap.lt_size ho)
  unfold unpack
  rw [hn, hs]
  refine wpAny_bind (wpAny_holding ?_)
  unfold unpackItems
  refine wpAny_bind ?_
  unfold notIterableAtAll
  refine wpAny_bind (wpAny_specialOf hl.typeIs slot_list_iter.lookup ?_)
  refine wpAny_pure ?_
  simp only [Bool.false_eq_true, if_false]
  refine wpAny_bind (wpAny_holding (wpAny_pyIter_list hl ?_))
  have up : (s.heap.push { cls := .type "list_iterator", data := .fields #[.ref l, .int 0 0] }).IsList l vs := by
    obtain ⟨o, ho, r⟩ := hl
    exact ⟨o, Heap.get?_push_of_some _ ho, r⟩
  refine wpAny_bind (wpAny_holding (draw_lst ne vs.size 0 _ _ ⟨_, Heap.get?_push_size _ rfl, rfl, rfl⟩ up (by omega) fun h1 k1 s1 => ?_))
  have all : List.take vs.size (List.drop 0 vs.toList) = vs.toList := by
    rw [List.drop_zero]
    exact List.take_of_length_le (by simp)
  rw [all, if_neg (by simp)]
  refine wpAny_bind (wpAny_holding (wpAny_pyNext_list_end hh k1 (up.extBut s1.extBut ne) (by simp) fun h2 e2 => ?_))
  simp only [Option.isSome_none, Bool.false_eq_true, if_false]
  exact wpAny_pure (h h2 fun b o hb e => e2 b o hb (s1.extBut b o hb (Heap.get?_push_of_some _ e)))
end
/-- (a, b, ..) = a tuple or a list of that length -/
def gSeq (K : PySem.W.Frag) (n : Nat) (t : TGs) : TG := fun v sg H Q => ∃ a xs, v = .ref a ∧ (SqT K H a xs ∨ SqL K H a xs) ∧ xs.length = n ∧ t xs sg H Q
section
variable {X : Cx}
theorem pg_seq {es : List Expr} {k : Nat} {t : TGs} {n : Nat} {pos : Pos} (hc : X.calm = true) (h : PGs X es t) (hn : (assignEach es X.env).length = n) (hst : (assignEach es X.env).findIdx? (·.1) = none) : PG X (.Tuple es k pos) (gSeq X.K n t) := by
  refine ⟨fun pins s sg H v u Q I r hw => ?_⟩
  obtain ⟨a, xs, e1, hq, hl, hw⟩ := hw
  subst e1
  cases r
  have go : ∀ {its : List Value}, Vals xs its → ∀ h', Heap.ExtBut s.heap.objs.size s.heap h' → wpAny (model X.prog X.w) X.A (assignInOrder ((assignEach es X.env).map (·.2)) its.toArray.toList) (fun _ s' => ∃ sg' H', Inv X pins sg' H' s' ∧ Q sg' H') X.xe { s with heap := h' } := fun {its} rv h' hx =>
    h.run pins _ sg H xs _ Q (I.kept (t' := s.toks) fun b o e => hx b o (Nat.ne_of_lt (Heap.lt_size e)) e) (by simpa using rv) hw
  rcases hq with hq | hq
  · obtain ⟨its, rv, ht, hz⟩ := I.tuple hq
    exact assign_Tuple_tuple (I.ok.hd hc) ht (by simp [hn, ← hl, rv.length]) hst fun h' hx => go rv h' hx
  · obtain ⟨its, rv, ⟨o, m, e1, e2, e3, e4⟩, hz⟩ := I.list hq
    rw [assign_Tuple]
    exact wpAny_bind (wpAny_standAt (unpack_lst (I.ok.hd hc) ⟨o, e1, e2, m, e4⟩ (by simp [hn, ← hl, rv.length]) hst fun h' hx => go rv h' hx))
end
section
variable {R : RC} {F : CallT} {W : WX} {sg : L2.St} {H : Hp}
theorem tg_tq {gs : List G} {v : V} {Q : L2.St → Hp → Prop} (h : tG R F W (gTq gs) v sg H Q) : gSeq R.K gs.length (tGs R F W gs) v sg H Q := by
  obtain ⟨rho, st, env, x, hE, hS, r, g⟩ := h
  have key : ∀ (xs : List PV) (a : Addr) (vs : List V), v = .ref a → (SqT R.K H a vs ∨ SqL R.K H a vs) → RepVs R rho H xs vs → Good R (EnvRep R) rho H (if xs.length = gs.length then (match gEach gs xs F env st with
      | .ok a s => .ok a s
      | _ => .bad) else .bad) (fun cls d H' => W cls d sg H') Q → gSeq R.K gs.length (tGs R F W gs) v sg H Q := fun xs a vs ev hq rs g => by
    split at g
    · rename_i hl
      refine ⟨a, vs, ev, hq, by rw [← rs.length]; exact hl, rho, st, env, xs, hE, hS, rs, ?_⟩
      cases e : gEach gs xs F env st with
      | ok a s => rw [e] at g; exact g
      | bad => rw [e] at g; exact g
      | exc c ks ys s => rw [e] at g; exact g.elim
    · exact g.elim
  cases x with
  | tup xs =>
    simp only [RepV] at r
    obtain ⟨a, vs, ev, t, rs⟩ := r
    exact key xs a vs ev (.inl t.sq) rs g
  | lv xs =>
    simp only [RepV] at r
    obtain ⟨a, vs, ev, t, _, rs⟩ := r
    exact key xs a vs ev (.inr (.inl (.inl t))) rs g
  | _ => exact g.elim
end
end OL
set_option maxRecDepth 100000
set_option maxHeartbeats 0
/-! ## functions: the meaning of a def, its promise, calls -/
namespace OL
open PySem PySem.Spec
open PyProof.Rows L2

structure FnI where
  ps : List Str
  N : List Str
  body : SD
def endF (r : Res Fl) : Res PV := match r with
  | .ok (.rt v) s => .ok v s
  | .ok (.nx _) s => .ok .non s
  | .ok (.ex c ks xs _) s => .exc c ks xs s
  | _ => .bad
def startE (n : Nat) (args : List PV) : LEnv := args.map some ++ List.replicate (n - args.length) none
/-! a value that names no cell -/
mutual
def pureV : PV → Bool
  | .obj _ => false
  | .tup xs => pureVs xs
  | .kt xs => pureVs xs
  | .lv xs => pureVs xs
  | .fl xs => pureVs xs
  | .iv _ _ xs => pureVs xs
  | .dv ks xs => pureVs ks && pureVs xs
  | .xv _ _ xs => pureVs xs
  | _ => true
def pureVs : List PV → Bool
  | [] => true
  | x :: xs => pureV x && pureVs xs
end
/-- a call that no cell enters or leaves is told apart from the store -/
def isoF (p : Bool) (r : Sto → Res PV) (st : Sto) : Res PV := if p then (match r [] with
    | .ok v _ => if pureV v then .ok v st else r st
    | .exc c ks xs _ => if pureVs xs then .exc c ks xs st else r st
    | .bad => .bad) else r st
def callK (T : List FnI) : Nat → CallT
  | 0 => fun _ _ _ => .bad
  | k + 1 => fun f args st => match T[f]? with
    | some fi => if args.length = fi.ps.length then isoF (pureVs args) (fun st => endF (fi.body (callK T k) (startE fi.N.length args) st)) st else .bad
    | none => .bad
mutual
theorem RepV.pure {R : RC} {r1 r2 : Rho} {H : Hp} (d : ∀ a, Dead r1 a → Dead r2 a) : ∀ (x : PV) (v : V), pureV x = true → RepV R r1 H x v → RepV R r2 H x v
  | .non, v, _, h => by simp only [RepV] at h ⊢; exact h
  | .bl b, v, _, h => by simp only [RepV] at h ⊢; exact h
  | .int i, v, _, h => by simp only [RepV] at h ⊢; exact h
  | .str s, v, _, h => by simp only [RepV] at h ⊢; exact h
  | .ty n, v, _, h => by simp only [RepV] at h ⊢; exact h
  | .cls c, v, _, h => by simp only [RepV] at h ⊢; exact h
  | .fn f, v, _, h => by simp only [RepV] at h ⊢; exact h
  | .tup xs, v, p, h => by
    simp only [RepV] at h ⊢
    simp only [pureV] at p
    obtain ⟨a, vs, e, t, r⟩ := h
    exact ⟨a, vs, e, ⟨t.1, d a t.2⟩, RepVs.pure d xs vs p r⟩
  | .kt xs, v, p, h => by
    simp only [RepV] at h ⊢
    simp only [pureV] at p
    obtain ⟨a, vs, e, t, r⟩ := h
    exact ⟨a, vs, e, t, RepVs.pure d xs vs p r⟩
  | .lv xs, v, p, h => by
    simp only [RepV] at h ⊢
    simp only [pureV] at p
    obtain ⟨a, vs, e, t, q, r⟩ := h
    exact ⟨a, vs, e, t, d a q, RepVs.pure d xs vs p r⟩
  | .fl xs, v, p, h => by
    simp only [RepV] at h ⊢
    simp only [pureV] at p
    obtain ⟨a, vs, e, t, r⟩ := h
    refine ⟨a, vs, e, ?_, RepVs.pure d xs vs p r⟩
    rcases t with ⟨o, h1, h2⟩ | h1
    · exact .inl ⟨o, h1, d a h2⟩
    · exact .inr h1
  | .iv c ks xs, v, p, h => by
    simp only [RepV] at h ⊢
    simp only [pureV] at p
    obtain ⟨a, dx, vs, e, t, q, l, r⟩ := h
    exact ⟨a, dx, vs, e, t, d a q, l, RepVs.pure d xs vs p r⟩
  | .dv ks xs, v, p, h => by
    simp only [RepV] at h ⊢
    simp only [pureV, Bool.and_eq_true] at p
    obtain ⟨a, kvs, e, t, q, rk, r⟩ := h
    exact ⟨a, kvs, e, t, d a q, RepVs.pure d ks _ p.1 rk, RepVs.pure d xs _ p.2 r⟩
  | .xv c ks xs, v, p, h => by
    simp only [RepV] at h ⊢
    simp only [pureV] at p
    obtain ⟨a, oe, e, ⟨x1, x2, x3, x4⟩, q⟩ := h
    refine ⟨a, oe, e, ⟨x1, d a x2, x3, x4⟩, ?_⟩
    rcases q with ⟨dd, vs, e1, e2, e3, e4, e5⟩ | q
    · exact .inl ⟨dd, vs, e1, e2, d dd e3, e4, RepVs.pure d xs vs p e5⟩
    · exact .inr q
  | .obj n, v, p, h => by simp only [pureV] at p; cases p
theorem RepVs.pure {R : RC} {r1 r2 : Rho} {H : Hp} (d : ∀ a, Dead r1 a → Dead r2 a) : ∀ (xs : List PV) (vs : List V), pureVs xs = true → RepVs R r1 H xs vs → RepVs R r2 H xs vs
  | [], vs, _, h => by simp only [RepVs] at h ⊢; exact h
  | x :: xs, vs, p, h => by
    simp only [RepVs] at h ⊢
    simp only [pureVs, Bool.and_eq_true] at p
    obtain ⟨v, r, e, h1, h2⟩ := h
    exact ⟨v, r, e, RepV.pure d x v p.1 h1, RepVs.pure d xs r p.2 h2⟩
end
theorem ExcRep.pure {R : RC} {r1 r2 : Rho} {H : Hp} {c : Nat} {ks : List Nat} {xs : List PV} {cls : Value} {dd : Option Addr} (d : ∀ a, Dead r1 a → Dead r2 a) (p : pureVs xs = true) (h : ExcRep R r1 H c ks xs cls dd) : ExcRep R r2 H c ks xs cls dd := by
  obtain ⟨h1, h2⟩ := h
  refine ⟨h1, ?_⟩
  rcases h2 with ⟨a, vs, e1, e2, e3, e4, e5⟩ | h2
  · exact .inl ⟨a, vs, e1, e2, d a e3, e4, RepVs.pure d _ _ p e5⟩
  · exact .inr h2
/-- the cells put aside -/
def Rho.aside (r : Rho) : Rho := ⟨[], r.ex ++ r.cs.filterMap id⟩
theorem aside_dead {r : Rho} {a : Addr} : Dead r.aside a ↔ Dead r a := by
  unfold Dead Rho.aside
  constructor
  · rintro ⟨_, h⟩
    simp only [List.mem_append, List.mem_filterMap, id, not_or] at h
    refine ⟨fun n e => h.2 ⟨some a, List.mem_of_getElem? e, rfl⟩, h.1⟩
  · rintro ⟨h1, h2⟩
    refine ⟨fun n e => by simp at e, fun h => ?_⟩
    rcases List.mem_append.mp h with q | q
    · exact h2 q
    · obtain ⟨o, q1, q2⟩ := List.mem_filterMap.mp q
      obtain ⟨n, hn, e⟩ := List.mem_iff_getElem.mp q1
      have q2 : o = some a := q2
      refine h1 n ?_
      rw [List.getElem?_eq_getElem hn, e, q2]
theorem aside_rep {R : RC} {rho : Rho} {st : Sto} {H : Hp} (S : StRep R rho st H) : StRep R rho.aside [] H := by
  refine ⟨rfl, fun n m a e => by simp [Rho.aside] at e, fun n c e => by simp at e, fun n a e => by simp [Rho.aside] at e, fun a h => ?_, S.tab, fun p hp => List.mem_append_left _ (S.tin p hp)⟩
  rcases List.mem_append.mp h with q | q
  · exact S.res a q
  · obtain ⟨o, q1, q2⟩ := List.mem_filterMap.mp q
    obtain ⟨n, hn, e⟩ := List.mem_iff_getElem.mp q1
    have q2 : o = some a := q2
    exact S.live (n := n) (by rw [List.getElem?_eq_getElem hn, e, q2])
/-- .. and taken up again -/
theorem aside_back {R : RC} {rho r2 : Rho} {st : Sto} {H H2 : Hp} (S : StRep R rho st H) (M : Mono rho.aside H r2 H2) (tb2 : LamX.Tabs R.tb H2) (res2 : ∀ a ps, a ∈ rho.aside.ex → H a = some (.tbl ps) → ∃ o, H2 a = some o) : Mono rho H rho H2 ∧ StRep R rho st H2 ∧ ∀ a, Dead r2 a → Dead rho a := by
  have live : ∀ (n : Nat) a, rho.cs[n]? = some (some a) → H2 a = H a := fun n a e => M.held a (List.mem_append_right _ (List.mem_filterMap.mpr ⟨some a, List.mem_of_getElem? e, rfl⟩)) fun ps z => by
    obtain ⟨u, h1, h2, _⟩ := S.shape e
    rw [h1] at z
    exact h2 ps (Option.some.inj z)
  have held : ∀ a, a ∈ rho.ex → (∀ ps, H a ≠ some (.tbl ps)) → H2 a = H a := fun a h n => M.held a (List.mem_append_left _ h) n
  have MM : Mono rho H rho H2 := ⟨⟨fun a o e d => M.keep a o e (aside_dead.mpr d), fun _ _ _ d => d, Nat.le_refl _, fun _ _ _ e => e⟩, rfl, held⟩
  refine ⟨MM, ⟨S.len, S.inj, fun n c e => (S.cell n c e).stay MM.toMonoV (fun a o e1 e2 => ⟨by rw [live n a e1]; exact e2, e1⟩) fun z => z, S.apart, fun a h => ?_, tb2, S.tin⟩, fun a d => ?_⟩
  · obtain ⟨o, ho⟩ := S.res a h
    by_cases n : ∀ ps, H a ≠ some (.tbl ps)
    · exact ⟨o, by rw [held a h n]; exact ho⟩
    · by_cases z : ∃ o', H2 a = some o'
      · exact z
      · exfalso
        exact n fun ps e => z (res2 a ps (List.mem_append_left _ h) e)
  · refine aside_dead.mp ⟨fun n e => by simp [Rho.aside] at e, ?_⟩
    rw [← M.ex]
    exact d.2

/-- how a def is called: as a rule; where an exception is handled; where what it raises must have no context -/
inductive Md where
  | cold
  | hot
  | nar
def Md.isHot : Md → Bool
  | .hot => true
  | _ => false
def Md.nc : Md → Bool
  | .nar => true
  | _ => false
def CXm : Bool → Program → World → CXT
  | false => L2.CX
  | true => L2N.CX
def Takesm : Bool → Cx → WX → Prop
  | false => L2.Takes
  | true => L2N.Takes
theorem takesm0 {nc : Bool} {X : Cx} : Takesm nc X (fun _ _ _ _ => False) := by
  cases nc
  · exact takes0
  · intro u s' x
    obtain ⟨_, _, _, _, _, _, _, _, _, _, _, _, _, _, _, _, z⟩ := x
    exact z.elim
theorem takesm_of {nc : Bool} {X : Cx} {E : XK} (hs : X.stack = X.env :: X.outer) (hf : X.env.frame = some X.env.locals) (hex : X.ex = []) {E₁ : Value → Shared → Prop}
    (hx : X.xe = fun e s' => wpAny (model X.prog X.w) X.A (leaving X.env e) (fun _ s'' => CXm nc X.prog X.w X.outer X.H_0 X.s_0 E e s'') E₁ s') : Takesm nc X (fun cls d _ H => E cls d H) := by
  cases nc
  · exact takes_of hs hf hex hx
  · exact L2N.takes_of hs hf hex hx
/-- what is kept free below the defs that are called as a rule -/
def hb : Md → Nat
  | .cold => 20
  | _ => 0
/-- room; hot: an exception may be handled -/
structure RoomG (hot : Bool) (k : Nat) (A : Around) : Prop where
  dp : A.depth + 3 * k + 5 < recursionLimit
  un : A.units + 16 * k + 200 < cLine
  g : A.guards = some []
  hd : hot = false → A.handled = none
theorem RoomG.mono {hot : Bool} {j k : Nat} {A : Around} (h : RoomG hot k A) (l : j ≤ k) : RoomG hot j A := ⟨by have := h.dp; omega, by have := h.un; omega, h.g, h.hd⟩
theorem RoomG.to {hot hot' : Bool} {k : Nat} {A : Around} (h : RoomG hot k A) (t : hot = true → hot' = true) : RoomG hot' k A := ⟨h.dp, h.un, h.g, fun e => h.hd (by
  cases hot with
  | false => rfl
  | true => rw [t rfl] at e; cases e)⟩
theorem RoomG.deeper {hot : Bool} {k : Nat} {A : Around} (h : RoomG hot (k + 1) A) (env : Env) : RoomG hot k (A.deeper env) := ⟨by have := h.dp; show A.depth + 1 + 3 * k + 5 < _; omega, by have := h.un; show A.units + 3 + 16 * k + 200 < _; omega, h.g, h.hd⟩
theorem RoomG.in1 {hot : Bool} {k : Nat} {A : Around} (h : RoomG hot (k + 1) A) : RoomG hot k A.in1 := ⟨by have := h.dp; show A.depth + 3 * k + 5 < _; omega, by have := h.un; show A.units + 1 + 16 * k + 200 < _; omega, h.g, h.hd⟩
theorem RoomG.units {hot : Bool} {k : Nat} {A : Around} (h : RoomG hot k A) : A.units + 64 < cLine := by have := h.un; omega
theorem RoomG.units0 {hot : Bool} {k : Nat} {A : Around} (h : RoomG hot k A) : A.units < cLine := by have := h.un; omega
theorem RoomG.depth {hot : Bool} {k : Nat} {A : Around} (h : RoomG hot k A) : A.depth < recursionLimit := by have := h.dp; omega
/-- a def's context: calm where nothing is handled -/
def cxG (md : Md) (P : Program) (w : World) (K : PySem.W.Frag) (mg : Str → Option Value) (base : Heap) (N : List Str) (qual : Str) (scope : Scope) (f : Addr) (cd : Value) (A : Around) (outer : List Env) (s : Shared) (H : Hp) (E : XK) : Cx :=
  { cxOf (CXm md.nc P w) P w K mg base N qual scope f cd A outer s H E with calm := !md.isHot }
theorem Inv.hotten {md : Md} {P : Program} {w : World} {K : PySem.W.Frag} {mg : Str → Option Value} {base : Heap} {N : List Str} {qual : Str} {scope : Scope} {f : Addr} {cd : Value} {A : Around} {outer : List Env} {s s1 : Shared} {H H1 : Hp} {E : XK} {sg : L2.St} (hd : md.isHot = false → A.handled = none)
    (I : Inv (cxOf (CXm md.nc P w) P w K mg base N qual scope f cd ({ A with handled := none } : Around) outer s H E) [] sg H1 s1) : Inv (cxG md P w K mg base N qual scope f cd A outer s H E) [] sg H1 s1 :=
  ⟨⟨I.ok.mod, I.ok.kind, I.ok.glob, I.ok.blt, I.ok.above, I.ok.inj, I.ok.has, I.ok.cab, fun z => hd (by
      have z : (!md.isHot) = true := z
      simpa using z), I.ok.frames, I.ok.stk, I.ok.exf, I.ok.bs, I.ok.bsz, I.ok.noex, I.ok.exfs, I.ok.funs, I.ok.frf⟩, I.os, I.bare, I.base, I.loc, I.cell, I.free, I.freeC, I.pin, I.hok, I.len⟩
/-- a def and its promise, where no repr is under way -/
structure FnG (md : Md) (P : Program) (w : World) (K : PySem.W.Frag) (mg : Str → Option Value) (base : Heap) (k : Nat) (f : Addr) (fd : FuncData) (ps : List Str) (sp : Sp) : Prop where
  len : ∀ vs H Q E, sp vs H Q E → vs.length = ps.length
  run : ∀ (A : Around) (outer : List Env) (s : Shared) (H : Hp) (args : Args) (us : List Value) (vs : List V) (Q : VK) (E : XK), RoomG md.isHot k A → Env0 P w K mg base A outer s H →
    BindsTo s fd args (ps.zip us) → Vals vs us → sp vs H Q E → codeAny (model P w) A (.call (.ref f) args) (CR (CXm md.nc P w) outer P w H s Q E) s
/-- what a def of the table promises -/
def spF (R : RC) (F : CallT) (f : Nat) (n : Nat) : Sp := fun vs H Q E => vs.length = n ∧ ∃ rho st args, StRep R rho st H ∧ RepVs R rho H args vs ∧ Good R (RepV R) rho H (F f args st) E Q
theorem spF_len {R : RC} {F : CallT} {f n : Nat} : ∀ vs H Q E, spF R F f n vs H Q E → vs.length = n := fun _ _ _ _ h => h.1

section
variable {X : Cx} {W : WX} {k : Nat} {f : Addr} {fd : FuncData} {ps : List Str} {sp : Sp} {pins : List (Addr × Obj)} {sg : L2.St} {H : Hp} {s : Shared} {Q : VK} {args : Args} {us : List Value} {vs : List V}
/-- behind a call: the answer, or the exception -/
theorem back_g {nc : Bool} (tk : Takesm nc X W) (I : Inv X pins sg H s) : ∀ r s', CR (CXm nc X.prog X.w) X.stack X.prog X.w H s Q (fun cls d H' => W cls d sg H') r s' →
    (match r with | .ok (.ret u) => EP X pins sg Q u s' | .ok _ => False | .error e => X.xe e s')
  | .error e, s', h => by
    cases nc
    · exact tk e s' (L2.XE.of_call I (fun _ _ _ q => q) h)
    · exact tk e s' (L2N.XE.of_call I (fun _ _ _ q => q) h)
  | .ok (.ret u), s', h => I.after h
  | .ok .next, s', h => False.elim h
  | .ok .brk, s', h => False.elim h
  | .ok .cont, s', h => False.elim h
theorem run_g {kw : List (Str × Value)} {ws : List Value} {md : Md} (F : FnG md X.prog X.w X.K X.mg X.base k f fd ps sp) (hr : RoomG md.isHot k X.A) (tk : Takesm md.nc X W) (hb : BindsTo s fd ⟨us, kw⟩ (ps.zip ws)) (I : Inv X pins sg H s) (r : Vals vs ws)
    (h : sp vs H Q (fun cls d H' => W cls d sg H')) : wpAny (model X.prog X.w) X.A (call (.ref f) us kw) (EP X pins sg Q) X.xe s := by
  refine wpAny_call (codeAny_mono (F.run X.A X.stack s H ⟨us, kw⟩ ws vs Q _ hr I.env0 hb r h) fun r s' hq => ?_)
  have := back_g tk I r s' hq
  cases r with
  | error e => exact this
  | ok fl => cases fl with
    | ret u => exact this
    | next => exact this
    | brk => exact this
    | cont => exact this
end

/-- where the parameters are kept: in the frame, or in a cell of their own -/
theorem par_kept {N ps : List Str} {scope : Scope} (S : FnScope N ps scope) (n : Nat) (us : List Value) (y : Str × Value) (hy : y ∈ ps.zip us) :
    scope.names.lookup y.1 = some .local ∨ (scope.names.lookup y.1 = some .cell ∧ ((cellsFrom n scope.names []).lookup y.1).isSome = true) :=
  (S.par y.1 (List.of_mem_zip (a := y.1) (b := y.2) hy).1).imp id fun q => ⟨q, PySem.W.cellsFrom_some _ _ _ (.inl q)⟩
/-- a body that has come to its end, told as the call's end -/
theorem told_end {X : Cx} {Q : VK} {fl : Flow} {s' : Shared} (hs : SP X [] { nx := fun _ H' => Q .non H', rt := Q } fl s') :
    ∃ (sg : L2.St) (H' : Hp) (v : V), Inv X [] sg H' s' ∧ Q v H' ∧ match fl with
      | .ret u => RelV v u
      | .next => v = .non
      | _ => False := by
  match fl, hs with
  | .ret u, ⟨v, sg, H', J, rv, q⟩ => exact ⟨sg, H', v, J, q, rv⟩
  | .next, ⟨sg, H', J, q⟩ => exact ⟨sg, H', .non, J, q, rfl⟩
  | .brk, ⟨_, _, _, q⟩ => exact q.elim
  | .cont, ⟨_, _, _, q⟩ => exact q.elim
/-- a def by its body: RoomG instead of Room is all that the library's rule for FnOk lacks here -/
theorem fnG_of {md : Md} {P : Program} {w : World} {K : PySem.W.Frag} {mg : Str → Option Value} {base : Heap} {lv : Nat} {f : Addr} {nm qn : Str} {pa : Arguments} {bd : List Stmt} {sc : Scope} {v1 v2 v3 v4 cdv v5 v6 : Value} {a1 a2 : Option Addr} {sl : Array (Option Value)} {N ps : List Str} {pr : Sp}
    (lk : K.lookup f = some ⟨v6, a2, .func (PySem.W.fnOf nm qn pa bd sc v1 v2 v3 v4 a1 cdv v5), sl⟩) (hcd : PySem.W.codeIn K cdv qn = true) (S : FnScope N ps sc) (hlen : ∀ zs H Q E, pr zs H Q E → zs.length = ps.length)
    (hbody : ∀ (A : Around) (out : List Env) (s : Shared) (H : Hp) (zs : List V) (Q : VK) (E : XK), RoomG md.isHot lv (A.deeper (envOfC qn sc s.heap.objs.size f cdv)) → pr zs H Q E →
      ∃ t, PSs (cxG md P w K mg base N qn sc f cdv A out s H E) bd t ∧ t { nx := fun _ H' => Q .non H', rt := Q } (L2.start N zs) H) :
    FnG md P w K mg base (lv + 1) f (PySem.W.fnOf nm qn pa bd sc v1 v2 v3 v4 a1 cdv v5) ps pr where
  len := hlen
  run := by
    intro A out s H ar us zs Q E room world bound rel want
    have old : ∀ b o, base.get? b = some o → s.heap.get? b = some o := fun b o e => (world.bs b o e).1
    have there := world.mod.kin.keeps old
    obtain ⟨t, walk, reads⟩ := hbody A out s H zs Q E (room.deeper _) want
    refine codeAny_call_function room.depth (there f _ lk) rfl S.co S.gen rfl (PySem.W.codeRec_of there hcd) (bound _ _ _ _ (wpAny_newFunctionEnv_cells S.kind (par_kept S _ us) ?_))
    rintro _ rfl s1 inn
    refine ⟨(world.mod.nolimit.keeps old).keeps inn.toInCall.keep, codeAny_func ?_⟩
    have world2 : Env0 P w K mg base ({ A with handled := none } : Around) out s H := ⟨world.frames, world.mod, world.bs, world.bsz, world.funs, world.frf, world.hok, world.bare⟩
    have begun := Inv.hotten room.hd (inv_start (CX := CXm md.nc P w) (E := E) S rfl world2 (hlen _ _ _ _ want) rel inn)
    refine wpAny_mono (walk.run [] s1 _ H _ begun reads) ?_ fun _ _ z => z
    intro fl s' hs
    obtain ⟨sg, H', v, J, q, m⟩ := told_end hs
    cases fl with
    | ret u => exact ⟨v, H', J.os, J.bare, J.base, J.hok, m, q⟩
    | next =>
      have m : v = .non := m
      subst m
      exact ⟨.non, H', J.os, J.bare, J.base, J.hok, rfl, q⟩
    | brk => exact m.elim
    | cont => exact m.elim
theorem startE_rep {R : RC} {rho : Rho} {H : Hp} {N : List Str} {args : List PV} {vs : List V} (r : RepVs R rho H args vs) : EnvRep R rho H (startE N.length args) (L2.start N vs) := by
  have hl := r.length
  refine ⟨by unfold startE L2.start; simp [hl], fun i x e => ?_⟩
  unfold startE at e
  by_cases hi : i < args.length
  · rw [List.getElem?_append_left (by simpa using hi), List.getElem?_map] at e
    cases ea : args[i]? with
    | none => rw [ea] at e; cases e
    | some y =>
      rw [ea] at e
      cases e
      obtain ⟨v, h1, h2⟩ := r.get ea
      refine ⟨v, ?_, h2⟩
      unfold L2.start
      rw [List.getElem?_append_left (by simpa [← hl] using hi), List.getElem?_map, h1]
      rfl
  · rw [List.getElem?_append_right (by simpa using hi), List.getElem?_replicate] at e
    split at e <;> cases e
/-- from a body's soundness to the def's promise -/
theorem fn_step {md : Md} {R : RC} {T : List FnI} {j : Nat} {fi : FnI} {kp : Nat} {P : Program} {w : World} {K : PySem.W.Frag} {mg : Str → Option Value} {base : Heap} {f : Addr} {x qual : Str} {params : Arguments} {body : List Stmt} {scope : Scope} {dV kV doc pm cdv ct oc : Value} {an od : Option Addr}
    {osl : Array (Option Value)} {lv : Nat} (hj : T[j]? = some fi) (lk : K.lookup f = some ⟨oc, od, .func (PySem.W.fnOf x qual params body scope dV kV doc pm an cdv ct), osl⟩)
    (hcd : PySem.W.codeIn K cdv qual = true) (S : FnScope fi.N fi.ps scope)
    (hb : ∀ (A : Around) (outer : List Env) (s : Shared) (H : Hp) (E : XK), RoomG md.isHot lv (A.deeper (envOfC qual scope s.heap.objs.size f cdv)) →
      PSs (cxG md P w K mg base fi.N qual scope f cdv A outer s H E) body (tS R (callK T kp) (fun cls d _ H' => E cls d H') fi.body)) :
    FnG md P w K mg base (lv + 1) f (PySem.W.fnOf x qual params body scope dV kV doc pm an cdv ct) fi.ps (spF R (callK T (kp + 1)) j fi.ps.length) := by
  refine fnG_of lk hcd S spF_len fun A outer s H vs Q E hr hsp => ⟨_, hb A outer s H E hr, ?_⟩
  obtain ⟨hl, rho, st, args, hS, hA, g⟩ := hsp
  simp only [callK, hj] at g
  rw [if_pos (by rw [hA.length]; exact hl)] at g
  -- the body in a store
  have plain : ∀ (rho : Rho) (st : Sto) (Q : VK) (E : XK), StRep R rho st H → RepVs R rho H args vs → Good R (RepV R) rho H (endF (fi.body (callK T kp) (startE fi.N.length args) st)) E Q →
      tS R (callK T kp) (fun cls d _ H' => E cls d H') fi.body { nx := fun _ H' => Q .non H', rt := Q } (L2.start fi.N vs) H := by
    intro rho st Q E hS hA g
    refine ⟨rho, st, startE fi.N.length args, startE_rep hA, hS, ?_⟩
    cases e : fi.body (callK T kp) (startE fi.N.length args) st with
    | bad => rw [e] at g; exact g
    | exc c ks xs s1 => rw [e] at g; exact g
    | ok fl s1 =>
      rw [e] at g
      cases fl with
      | nx e1 => exact fun rho' H' sg M S' E' => g rho' H' .non M S' (by simp only [RepV])
      | rt v => exact fun rho' H' u M S' r => g rho' H' u M S' r
      | bk e1 => exact g.elim
      | ct e1 => exact g.elim
      | ex c ks xs e1 => exact fun rho' H' sg cls d M S' _ ex => g rho' H' cls d M S' ex
  simp only [isoF] at g
  split at g
  · rename_i hp
    have hA2 : RepVs R rho.aside H args vs := RepVs.pure (fun a d => aside_dead.mpr d) _ _ hp hA
    cases e : endF (fi.body (callK T kp) (startE fi.N.length args) []) with
    | bad => rw [e] at g; exact g.elim
    | exc c ks xs s1 =>
      rw [e] at g
      simp only at g
      split at g
      · rename_i hx
        refine plain rho.aside [] Q E (aside_rep hS) hA2 ?_
        rw [e]
        intro r2 H2 cls d M2 S2 ex
        obtain ⟨m1, m2, m3⟩ := aside_back hS M2 S2.tab (fun a ps h _ => S2.res a (by rw [M2.ex]; exact h))
        exact g rho H2 cls d m1 m2 (ExcRep.pure m3 hx ex)
      · exact plain rho st Q E hS hA g
    | ok v s1 =>
      rw [e] at g
      simp only at g
      split at g
      · rename_i hv
        refine plain rho.aside [] Q E (aside_rep hS) hA2 ?_
        rw [e]
        intro r2 H2 u M2 S2 r
        obtain ⟨m1, m2, m3⟩ := aside_back hS M2 S2.tab (fun a ps h _ => S2.res a (by rw [M2.ex]; exact h))
        exact g rho H2 u m1 m2 (RepV.pure m3 _ _ hv r)
      · exact plain rho st Q E hS hA g
  · exact plain rho st Q E hS hA g
end OL
set_option maxRecDepth 100000
set_option maxHeartbeats 0
/-! ## soundness: calls of defs, methods, classes; attributes -/
namespace OL
open PySem PySem.Spec
open PyProof.Rows L2

/-- how arguments come to the parameters, by shape: n by position, ks by name -/
def selV (vs : List V) : Sel → V
  | .a i => vs.getD i .non
  | .d (.str s) => .str s
  | .d (.int s) => .int s
  | .d (.bl s) => .bl s
  | .d _ => .non
def ShapeOk (K : PySem.W.Frag) (fd : FuncData) (ps : List Str) (n : Nat) (ks : List Str) (sel : List Sel) : Prop :=
  ∀ (s : Shared) (us ws : List Value) (vs : List V), K.In s.heap → us.length = n → ws.length = ks.length → Vals vs (us ++ ws) → ∃ zs, BindsTo s fd ⟨us, ks.zip ws⟩ (ps.zip zs) ∧ Vals (sel.map (selV vs)) zs
def flatSel : Sel → Bool
  | .a _ => true
  | .d (.str _) => true
  | .d (.int _) => true
  | .d (.bl _) => true
  | .d .non => true
  | .d _ => false
theorem pick_ok {R : RC} {rho : Rho} {H : Hp} {xs : List PV} {vs : List V} (r : RepVs R rho H xs vs) : ∀ {sel : List Sel} {ys : List PV}, sel.all flatSel = true → pick xs sel = some ys → RepVs R rho H ys (sel.map (selV vs))
  | [], ys, _, e => by simp only [pick] at e; cases e; simp [RepVs]
  | .a i :: t, ys, f, e => by
    simp only [pick] at e
    split at e
    · rename_i x zs e1 e2
      cases e
      obtain ⟨v, h1, h2⟩ := r.get e1
      refine RepVs.cons ?_ (pick_ok r (by simp only [List.all_cons, Bool.and_eq_true] at f; exact f.2) e2)
      show RepV R rho H x (vs.getD i .non)
      rw [List.getD_eq_getElem?_getD, h1]
      exact h2
    · cases e
  | .d v :: t, ys, f, e => by
    simp only [pick] at e
    split at e
    · rename_i zs e2
      cases e
      simp only [List.all_cons, Bool.and_eq_true] at f
      refine RepVs.cons ?_ (pick_ok r f.2 e2)
      have f1 := f.1
      cases v <;> first
        | (simp only [RepV]; rfl)
        | exact absurd (show false = true from f1) Bool.false_ne_true
    · cases e

structure Lnk (R : RC) (b : Tb) (mN : Nat → Str) (fD : Nat → FuncData) (T : List FnI) (K : PySem.W.Frag) : Prop where
  hK : R.K = K
  inj : ∀ i j, R.aN i = R.aN j → i = j
  fld : ∀ c k, b.fl c k = true → NoAttr K (R.cA c) (R.aN k) ∧ Cls K (R.cA c)
  mth : ∀ c m j, b.mt c m = some j → Meth K (R.cA c) (mN m) (R.fA j) ∧ Cls K (R.cA c)
  dis : ∀ m k, R.aN k ≠ mN m
  xfl : ∀ c k, b.isa c k = true → XfC K (R.cA c) ∧ PySem.W.findIn K (.ref (R.cA c)) (R.aN k) = some none
  posB : ∀ (j : Nat) fi, T[j]? = some fi → ∀ (s : Shared) (us : List Value), K.In s.heap → us.length = fi.ps.length → BindsTo s (fD j) ⟨us, []⟩ (fi.ps.zip us)
/-- every def of the table keeps its promise -/
def Fns (md : Md) (R : RC) (fD : Nat → FuncData) (T : List FnI) (P : Program) (w : World) (K : PySem.W.Frag) (mg : Str → Option Value) (base : Heap) (k : Nat) : Prop :=
  ∀ (j : Nat) fi, T[j]? = some fi → FnG md P w K mg base (6 * k + hb md) (R.fA j) (fD j) fi.ps (spF R (callK T k) j fi.ps.length)

section
variable {R : RC} {b : Tb} {mN : Nat → Str} {fD : Nat → FuncData} {T : List FnI} {W : WX} {X : Cx} {k : Nat} {md : Md}
theorem callK_fn {j : Nat} {args : List PV} {st : Sto} {rho : Rho} {H : Hp} {Wx : Value → Option Addr → Hp → Prop} {Q : VK} (g : Good R (RepV R) rho H (callK T k j args st) Wx Q) : ∃ fi, T[j]? = some fi ∧ args.length = fi.ps.length := by
  cases k with
  | zero => exact g.elim
  | succ k =>
    simp only [callK] at g
    cases e : T[j]? with
    | none => rw [e] at g; exact g.elim
    | some fi =>
      rw [e] at g
      simp only at g
      split at g
      · rename_i h; exact ⟨fi, rfl, h⟩
      · exact g.elim
/-- by values: a def is called -/
theorem run_call {j : Nat} {pins : List (Addr × Obj)} {sg : L2.St} {H : Hp} {s : Shared} {Q : VK} {us : List Value} {vs : List V} {rho : Rho} {st : Sto} {xs : List PV} (lk : Lnk R b mN fD T X.K) (fs : Fns md R fD T X.prog X.w X.K X.mg X.base k) (hr : RoomG md.isHot (6 * k + hb md) X.A) (tk : Takesm md.nc X W)
    (I : Inv X pins sg H s) (r : Vals vs us) (S : StRep R rho st H) (rx : RepVs R rho H xs vs) (g : Good R (RepV R) rho H (callK T k j xs st) (fun cls d H' => W cls d sg H') Q) :
    wpAny (model X.prog X.w) X.A (call (.ref (R.fA j)) us) (EP X pins sg Q) X.xe s := by
  obtain ⟨fi, hj, hl⟩ := callK_fn g
  have l1 := rx.length
  have l2 := r.length
  exact run_g (fs j fi hj) hr tk (lk.posB j fi hj s us I.kIn (by omega)) I r ⟨by omega, rho, st, xs, S, rx, g⟩
theorem pe_callG {j : Nat} {x : Str} {p pos : Pos} {e : Expr} {es : List Expr} {as : List (D PV)} (lk : Lnk R b mN fD T X.K) (fs : Fns md R fD T X.prog X.w X.K X.mg X.base k) (hr : RoomG md.isHot (6 * k + hb md) X.A) (tk : Takesm md.nc X W)
    (hg : Gl X x) (hm : X.mg x = some (.ref (R.fA j))) (hk : PySem.W.keepIn X.K (.ref (R.fA j)) = true) (ha : PA X (e :: es) (tL R (callK T k) W (dArgs as)))
    (hdb : (x == ("__debug__" : Str)) = false) (he : starEach (e :: es) X.env = (false, eval e X.env) :: starEach es X.env) (hpl : (backTo pos (starEach es X.env)).any (·.1) = false) :
    PE X (.Call (.Name x p) (e :: es) [] pos) (tE R (callK T k) W (dCall j as)) := by
  refine ⟨fun pins s sg H Q I ⟨rho, st, env, hE, hS, g⟩ => ?_⟩
  refine wpAny_Call_Name_kw (ld_glob I hg hm ?_ hdb)
  refine PySem.W.callWith_K (h₀ := X.base) I.ok.mod.kin hk (thn (ha.run pos pins s sg H _ I ⟨rho, st, env, hE, hS, Good.bnd g⟩) fun us s1 ⟨vs, H1, I1, r, q⟩ => ⟨I1.kIn, ?_⟩) he hpl
  obtain ⟨rho1, st1, xs, M1, S1, r1, g1⟩ := q
  exact run_call lk fs hr tk I1 r S1 r1 g1
theorem pe_callG0 {j : Nat} {x : Str} {p pos : Pos} (lk : Lnk R b mN fD T X.K) (fs : Fns md R fD T X.prog X.w X.K X.mg X.base k) (hr : RoomG md.isHot (6 * k + hb md) X.A) (tk : Takesm md.nc X W)
    (hg : Gl X x) (hm : X.mg x = some (.ref (R.fA j))) (hk : PySem.W.keepIn X.K (.ref (R.fA j)) = true) (hdb : (x == ("__debug__" : Str)) = false) :
    PE X (.Call (.Name x p) [] [] pos) (tE R (callK T k) W (dCall j [])) := by
  refine ⟨fun pins s sg H Q I ⟨rho, st, env, hE, hS, g⟩ => ?_⟩
  refine wpAny_Call_Name_kw (ld_glob I hg hm ?_ hdb)
  exact PySem.W.callWith_K0 I.kIn hk (run_call (us := []) (vs := []) lk fs hr tk I .nil hS (by simp only [RepVs]) g)
/-! ### fields -/
theorem clsOf_ok {rho : Rho} {st : Sto} {H : Hp} {x : PV} {v : V} {c : Nat} (S : StRep R rho st H) (r : RepV R rho H x v) (e : clsOf st x = some c) :
    ∃ a dx ks vs, v = .ref a ∧ H a = some (.ins (R.cA c) dx ((ks.map R.aN).zip vs)) ∧ ∃ xs, RepVs R rho H xs vs ∧ ks.length = xs.length ∧ (x = .iv c ks xs ∨ ∃ n, x = .obj n ∧ st[n]? = some (.ins c ks xs) ∧ rho.cs[n]? = some (some a)) := by
  unfold clsOf at e
  split at e
  · cases e
    simp only [RepV] at r
    obtain ⟨a, dx, vs, e1, h1, _, h2, h3⟩ := r
    exact ⟨a, dx, _, vs, e1, h1, _, h3, h2, .inl rfl⟩
  · split at e
    · rename_i n c' ks xs en
      cases e
      obtain ⟨a, dx, vs, e1, e2, h1, h2, h3⟩ := obj_ins S r en
      exact ⟨a, dx, ks, vs, e1, h1, xs, h3, h2, .inr ⟨_, rfl, en, e2⟩⟩
    · cases e
  · cases e
theorem lookup_dis {ks : List Nat} {vs : List V} {m : Str} (h : ∀ k, R.aN k ≠ m) : ((ks.map R.aN).zip vs).lookup m = none := by
  induction ks generalizing vs with
  | nil => rfl
  | cons j ks ih =>
    cases vs with
    | nil => rfl
    | cons v vs =>
      have hb : (m == R.aN j) = false := beq_eq_false_iff_ne.mpr fun q => h j q.symm
      simp only [List.map_cons, List.zip_cons_cons, List.lookup_cons, hb]
      exact ih
theorem getA_get {rho : Rho} {st : Sto} {H : Hp} {x : PV} {v : V} {c q : Nat} {Wx : Value → Option Addr → Hp → Prop} {Q : VK} (inj : ∀ i j, R.aN i = R.aN j → i = j) (S : StRep R rho st H) (r : RepV R rho H x v) (e : clsOf st x = some c) (g : Good R (RepV R) rho H (oGetA q x st) Wx Q) :
    ∃ a dx fs u, v = .ref a ∧ H a = some (.ins (R.cA c) dx fs) ∧ fs.lookup (R.aN q) = some u ∧ Q u H := by
  obtain ⟨a, dx, ks, vs, e1, h1, xs, h2, h3, h4⟩ := clsOf_ok S r e
  rcases h4 with rfl | ⟨n, rfl, en, _⟩
  · simp only [oGetA] at g
    split at g
    · rename_i y ey
      obtain ⟨u, k1, k2⟩ := getA_ok inj h2 ey
      exact ⟨a, dx, _, u, e1, h1, k1, fin_v S k2 g⟩
    · exact g.elim
  · simp only [oGetA, en] at g
    split at g
    · rename_i y ey
      obtain ⟨u, k1, k2⟩ := getA_ok inj h2 ey
      exact ⟨a, dx, _, u, e1, h1, k1, fin_v S k2 g⟩
    · exact g.elim
/-- e.f of an exception -/
theorem xv_get {pins : List (Addr × Obj)} {sg : L2.St} {H : Hp} {s : Shared} {rho : Rho} {st : Sto} {c : Nat} {ks : List Nat} {xs : List PV} {v : V} {u : Value} {q : Nat} {y : PV} {Q : VK} (lk : Lnk R b mN fD T X.K) (I : Inv X pins sg H s) (S : StRep R rho st H) (r : RepV R rho H (.xv c ks xs) v) (ru : RelV v u)
    (hb : b.isa c q = true) (hy : getA q ks xs = some y) (hQ : ∀ v', RepV R rho H y v' → Q v' H) : wpAny (model X.prog X.w) X.A (getAttr u (R.aN q) true) (EP X pins sg Q) X.xe s := by
  simp only [RepV] at r
  obtain ⟨a, oe, ev, ⟨x1, x2, x3, vs', x4⟩, q1⟩ := r
  subst ev
  obtain rfl : u = Value.ref a := ru
  obtain ⟨f1, f2⟩ := lk.xfl c q hb
  rcases q1 with ⟨dd, vs, e1, e2, e3, e4, e5⟩ | ⟨_, e2, e3⟩
  · obtain ⟨w', k1, k2⟩ := getA_ok lk.inj e5 hy
    have hx : ObjOk X.prog X.w H s.heap dd (.xd ((ks.map R.aN).zip vs)) := I.hok dd _ e2
    obtain ⟨mA, hns, hr⟩ := hx
    obtain ⟨od, ho, hl⟩ := lookIn_ns hns
    obtain ⟨u, hu, ru⟩ := RelO.some_of (v := w') (o := mA (R.aN q)) (by rw [← k1]; exact hr (R.aN q))
    have ha : ObjOk X.prog X.w H s.heap a (.ext fun h => h.get? a = some oe) := I.hok a _ x1
    have J : PySem.W.InstAt s.heap a oe (R.cA c) (some od) := ⟨ha.1, x3, by unfold PySem.W.notCls; rw [x4], by rw [e1]; exact ho⟩
    exact HandSPX.exc_get I.kIn J f1.ga f1.gg f1.exC (PySem.W.findObj_own f1.hdC f2 rfl (by rw [hl, hu])) (handed_of ru) ⟨w', H, I.tok _, ru, hQ _ k2⟩
  · subst e2; subst e3
    simp [getA] at hy
/-- e.f, a field (no property) -/
theorem pe_attrG {q : Nat} {e : Expr} {pos : Pos} {o : D PV} (lk : Lnk R b mN fD T X.K) (hp : ∀ c, b.fl c q = false → b.pr c q = none) (ho : PE X e (tE R (callK T k) W o)) (hb : attributeBase e (R.aN q) X.env (eval e X.env) = eval e X.env) :
    PE X (.Attribute e (R.aN q) pos) (tE R (callK T k) W (dAttr b q o)) := by
  refine ⟨fun pins s sg H Q I ⟨rho, st, env, hE, hS, g⟩ => attr_of hb (thn (ho.run pins s sg H _ I ⟨rho, st, env, hE, hS, Good.bnd g⟩) fun u s1 ⟨v, H1, I1, rv, rho1, st1, x, M1, S1, r1, g1⟩ => ?_)⟩
  split at g1
  · rename_i y ey
    cases x with
    | xv c ks xs =>
      simp only [attX, Option.some.injEq] at ey
      split at ey
      · rename_i hc
        exact xv_get lk I1 S1 r1 rv hc ey fun v' r' => fin_v S1 r' g1
      · cases ey
    | _ => simp only [attX] at ey; cases ey
  · exact g1.elim
  · split at g1
    · rename_i c ec
      split at g1
      · rename_i hf
        obtain ⟨a, dx, fs, u', e1, h1, h2, h3⟩ := getA_get lk.inj S1 r1 ec g1
        subst e1
        obtain rfl : u = Value.ref a := rv
        exact getattr_ok I1 h1 (lk.fld c q hf).2 (lk.fld c q hf).1 h2 fun u2 s2 I2 ru => ⟨u', H1, I2, ru, h3⟩
      · rename_i hf
        rw [hp c (by simpa using hf)] at g1
        exact g1.elim
    · exact g1.elim
/-- o.f = e -/
theorem ps_attrG {q : Nat} {o value : Expr} {pos pos' : Pos} {mo mv : D PV} (lk : Lnk R b mN fD T X.K) (ho : PE X o (tE R (callK T k) W mo)) (hv : PE X value (tE R (callK T k) W mv)) (hs : swapsWith value (some (.Attribute o (R.aN q) pos')) pos.line X.env = pure false) :
    PS X (.Assign [.Attribute o (R.aN q) pos'] value pos) (tS R (callK T k) W (sSetAt b mo q mv)) := by
  refine PS.weak (ps_fld ho hv hs) fun En sg H ⟨rho, st, env, hE, hS, g⟩ => ⟨rho, st, env, hE, hS, (GoodS.at hE g).imp fun v H1 ⟨rho1, st1, x, M1, S1, r1, g1⟩ => ?_⟩
  refine ⟨rho1, st1, env, hE.mono M1, S1, (GoodS.at (hE.mono M1) g1).imp fun ov H2 ⟨rho2, st2, ox, M2, S2, r2, g2⟩ => ?_⟩
  split at g2
  · rename_i c ec
    split at g2
    · rename_i hf
      obtain ⟨a, dx, ks, vs, e1, h1, xs, h2, h3, h4⟩ := clsOf_ok S2 r2 ec
      rcases h4 with rfl | ⟨n, rfl, en, ea⟩
      · exact g2.elim
      · simp only [oSetA, en] at g2
        split at g2
        · rename_i ks' xs' ep
          split at g2
          · rename_i hl
            obtain ⟨vs', k1, k2, k3⟩ := putA_ok lk.inj (r1.mono M2) h2 h3 ep
            have hz : ((ks.map R.aN).zip vs).length < 1000 := by
              rw [List.length_zip, List.length_map]
              omega
            refine ⟨a, R.cA c, dx, _, e1, h1, (lk.fld c q hf).2, (lk.fld c q hf).1, hz, ?_⟩
            rw [k1]
            have MW : Mono rho2 H2 rho2 (upd H2 a (.ins (R.cA c) dx ((ks'.map R.aN).zip vs'))) := Mono.write S2 ea
            exact g2 rho2 _ sg MW (S2.write ea ⟨a, dx, vs', ea, upd_same, k3, k2.mono MW⟩) (((hE.mono M1).mono M2).mono MW)
          · exact g2.elim
        · exact g2.elim
    · exact g2.elim
  · exact g2.elim
/-- o.m(e, ..) -/
theorem pe_methG {m : Nat} {o e : Expr} {es : List Expr} {apos pos : Pos} {mo : D PV} {as : List (D PV)} {pl : Sem Bool} (lk : Lnk R b mN fD T X.K) (fs : Fns md R fD T X.prog X.w X.K X.mg X.base k) (hr : RoomG md.isHot (6 * k + hb md) X.A) (tk : Takesm md.nc X W)
    (ho : PE X o (tE R (callK T k) W mo)) (ha : PA X (e :: es) (tL R (callK T k) W (dArgs as)))
    (he : starEach (e :: es) X.env = (false, eval e X.env) :: starEach es X.env) (hpl : (backTo pos (starEach es X.env)).any (·.1) = false)
    (ht : eval (.Call (.Attribute o (mN m) apos) (e :: es) [] pos) X.env = (do
      let ov ← eval o X.env
      standAt apos.atName
      let (f, first) ← holding [ov] (getMethod ov (mN m) pl)
      callWith pos f first (backTo pos (starEach (e :: es) X.env)) (backToKw pos (keywordEach [] X.env)))) :
    PE X (.Call (.Attribute o (mN m) apos) (e :: es) [] pos) (tE R (callK T k) W (dMeth b m mo as)) := by
  refine ⟨fun pins s sg H Q I ⟨rho, st, env, hE, hS, g⟩ => ?_⟩
  refine PySem.W.methodCall_KW (pl := pl) (thn (ho.run pins s sg H _ I ⟨rho, st, env, hE, hS, Good.bnd g⟩) fun u s1 ⟨v, H1, I1, rv, q⟩ => ?_) ht
  obtain ⟨rho1, st1, x, M1, S1, r1, g1⟩ := q
  split at g1
  · rename_i c ec
    split at g1
    · rename_i j ej
      obtain ⟨a, dx, ks, vs, e1, h1, xs, h2, h3, h4⟩ := clsOf_ok S1 r1 ec
      subst e1
      obtain rfl : u = Value.ref a := rv
      obtain ⟨hm, hc⟩ := lk.mth c m j ej
      refine getmeth_ok I1 h1 hc hm (lookup_dis fun k => lk.dis m k) ?_
      refine PySem.W.callWith_K (first := [.ref a]) (h₀ := X.base) I.ok.mod.kin hm.kp (thn (ha.run pos pins s1 sg H1 _ I1 ⟨rho1, st1, env, hE.mono M1, S1, Good.bnd g1⟩) fun us s2 ⟨zs, H2, I2, r, q2⟩ => ⟨I2.kIn, ?_⟩) he hpl
      obtain ⟨rho2, st2, ys, M2, S2, r2, g2⟩ := q2
      exact run_call (us := .ref a :: us) (vs := .ref a :: zs) lk fs hr tk I2 (.cons rfl r) S2 (RepVs.cons (r1.mono M2) r2) g2
    · exact g1.elim
  · exact g1.elim
theorem pe_methG0 {m : Nat} {o : Expr} {apos pos : Pos} {mo : D PV} {pl : Sem Bool} (lk : Lnk R b mN fD T X.K) (fs : Fns md R fD T X.prog X.w X.K X.mg X.base k) (hr : RoomG md.isHot (6 * k + hb md) X.A) (tk : Takesm md.nc X W)
    (ho : PE X o (tE R (callK T k) W mo))
    (ht : eval (.Call (.Attribute o (mN m) apos) [] [] pos) X.env = (do
      let ov ← eval o X.env
      standAt apos.atName
      let (f, first) ← holding [ov] (getMethod ov (mN m) pl)
      callWith pos f first (backTo pos (starEach [] X.env)) (backToKw pos (keywordEach [] X.env)))) :
    PE X (.Call (.Attribute o (mN m) apos) [] [] pos) (tE R (callK T k) W (dMeth b m mo [])) := by
  refine ⟨fun pins s sg H Q I ⟨rho, st, env, hE, hS, g⟩ => ?_⟩
  refine PySem.W.methodCall_KW (pl := pl) (thn (ho.run pins s sg H _ I ⟨rho, st, env, hE, hS, Good.bnd g⟩) fun u s1 ⟨v, H1, I1, rv, q⟩ => ?_) ht
  obtain ⟨rho1, st1, x, M1, S1, r1, g1⟩ := q
  split at g1
  · rename_i c ec
    split at g1
    · rename_i j ej
      obtain ⟨a, dx, ks, vs, e1, h1, xs, h2, h3, h4⟩ := clsOf_ok S1 r1 ec
      subst e1
      obtain rfl : u = Value.ref a := rv
      obtain ⟨hm, hc⟩ := lk.mth c m j ej
      refine getmeth_ok I1 h1 hc hm (lookup_dis fun k => lk.dis m k) ?_
      exact PySem.W.callWith_K0 (first := [.ref a]) I1.kIn hm.kp (run_call (us := [.ref a]) (vs := [.ref a]) lk fs hr tk I1 (.cons rfl .nil) S1 (RepVs.cons r1 (by simp only [RepVs])) g1)
    · exact g1.elim
  · exact g1.elim
/-! ### new instances -/
theorem under_guards {A : Around} {C : Addr} {us : List Value} {kw : List (Str × Value)} (h : A.guards = some []) : (A.under (.builtin "type.__call__" ⟨.ref C :: us, kw⟩)).guards = some [] := by
  simp [Around.under, Code.guards, Code.isGuard, guardIds, pushGuards, h]
theorem room_make {hot : Bool} {A : Around} {n : Nat} (h : RoomG hot (n + 1) A) (C : Addr) (us : List Value) (kw : List (Str × Value)) : RoomG hot n (A.under (.builtin "type.__call__" ⟨.ref C :: us, kw⟩)) := by
  have r : Room n (({ A with handled := none } : Around).under (.builtin "type.__call__" ⟨.ref C :: us, kw⟩)) := (show Room (n + 1) ({ A with handled := none } : Around) from ⟨rfl, h.dp, h.un⟩).make C us kw
  exact ⟨r.dp, r.un, under_guards h.g, h.hd⟩
/-- C(..): the new instance, __init__ -/
theorem run_makeG {c j : Nat} {mt : Bool} {pins : List (Addr × Obj)} {sg : L2.St} {H : Hp} {s : Shared} {Q : VK} {us : List Value} {kw : List (Str × Value)} {vs : List V} {rho : Rho} {st : Sto} {xs : List PV} {fi : FnI}
    (lk : Lnk R b mN fD T X.K) (fs : Fns md R fD T X.prog X.w X.K X.mg X.base k) (hr : RoomG md.isHot (6 * k + hb md + 1) X.A) (tk : Takesm md.nc X W) (M : Mk X.K (R.cA c) (R.fA j)) (I : Inv X pins sg H s) (hj : T[j]? = some fi)
    (hb : ∀ (s' : Shared) (a : Addr), X.K.In s'.heap → ∃ ws, BindsTo s' (fD j) ⟨.ref a :: us, kw⟩ (fi.ps.zip (.ref a :: ws)) ∧ Vals vs ws) (hl : xs.length + 1 = fi.ps.length) (S : StRep R rho st H) (rx : RepVs R rho H xs vs)
    (g : Good R (RepV R) rho H (mkIns mt c j (callK T k) xs st) (fun cls d H' => W cls d sg H') Q) :
    wpAny (model X.prog X.w) X.A (call (.ref (R.cA c)) us kw) (EP X pins sg Q) X.xe s := by
  have h0 : H s.heap.objs.size = none := I.hok.fresh (Nat.le_refl _)
  have h1 : H (s.heap.objs.size + 1) = none := I.hok.fresh (Nat.le_succ _)
  have ne : s.heap.objs.size + 1 ≠ s.heap.objs.size := Nat.succ_ne_self _
  have I2 := Inv.made (C := R.cA c) I
  obtain ⟨ws, hbd, r⟩ := hb _ (s.heap.objs.size + 1) I2.kIn
  generalize hd : s.heap.objs.size = dx at *
  have S1 : StRep R rho st (upd H dx (.own (dx + 1))) := S.fresh h0
  have h1' : upd H dx (.own (dx + 1)) (dx + 1) = none := by rw [upd_ne ne]; exact h1
  have M1 : Mono rho H rho (upd H dx (.own (dx + 1))) := Mono.fresh S h0
  have M2 : Mono rho (upd H dx (.own (dx + 1))) (rho.push (dx + 1)) (upd (upd H dx (.own (dx + 1))) (dx + 1) (.ins (R.cA c) dx [])) := Mono.push S1 h1'
  have S2 : StRep R (rho.push (dx + 1)) (st ++ [.ins c [] []]) (upd (upd H dx (.own (dx + 1))) (dx + 1) (.ins (R.cA c) dx [])) := S1.push h1' ⟨dx + 1, dx, [], get_push, upd_same, rfl, by simp only [RepVs]⟩
  have ro : RepV R (rho.push (dx + 1)) (upd (upd H dx (.own (dx + 1))) (dx + 1) (.ins (R.cA c) dx [])) (.obj st.length) (.ref (dx + 1)) := by
    simp only [RepV]
    refine ⟨dx + 1, rfl, by rw [← S.len]; simp [Rho.push], fun q hq => ?_⟩
    have hq : (rho.cs ++ [some (dx + 1)])[st.length]? = some (some q) := hq
    rw [← S.len, get_push] at hq
    cases hq
    rfl
  have rx2 := (rx.mono M1).mono M2
  have F := fs j fi hj
  have lx := rx.length
  -- what is wanted behind __init__
  have g2 : Good R (RepV R) (rho.push (dx + 1)) (upd (upd H dx (.own (dx + 1))) (dx + 1) (.ins (R.cA c) dx [])) (callK T k j (.obj st.length :: xs) (st ++ [.ins c [] []])) (fun cls d H' => W cls d sg H') (fun v H' => v = .non ∧ Q (.ref (dx + 1)) H') := by
    have g' := Good.shift (M1.trans M2) g
    unfold mkIns at g'
    refine (Good.bnd (rel := RepV R) g').imp fun v H3 ⟨rho3, st3, x, M3, S3, r3, g3⟩ => ?_
    cases x with
    | non =>
      simp only [RepV] at r3
      refine ⟨r3, ?_⟩
      have ro3 := ro.mono M3
      cases mt with
      | true => exact fin_v S3 ro3 g3
      | false =>
        have g3 : Good R (RepV R) rho3 H3 (oFrz (.obj st.length) st3) (fun cls d H' => W cls d sg H') Q := g3
        simp only [oFrz] at g3
        split at g3
        · rename_i ys en
          obtain ⟨a, ws', ea, e2, h2, h3⟩ := obj_list S3 ro3 en
          cases ea
          refine g3 (rho3.kill st.length) H3 _ (Mono.kill S3 e2) (S3.kill e2) ?_
          simp only [RepV]
          exact ⟨_, ws', rfl, h2, S3.killed e2, h3.mono (Mono.kill S3 e2)⟩
        · rename_i c' ks ys en
          obtain ⟨a, dx', ws', ea, e2, h2, h4, h3⟩ := obj_ins S3 ro3 en
          cases ea
          refine g3 (rho3.kill st.length) H3 _ (Mono.kill S3 e2) (S3.kill e2) ?_
          simp only [RepV]
          exact ⟨_, dx', ws', rfl, h2, S3.killed e2, h4, h3.mono (Mono.kill S3 e2)⟩
        · exact g3.elim
    | _ => exact g3.elim
  subst hd
  refine wpAny_call (make_map (f := R.fA j) I.kIn M.makes M.init (beq_iff_eq.mp M.fn) (codeAny_mono (F.run _ X.stack _ _ ⟨Value.ref (s.heap.objs.size + 1) :: us, kw⟩ (Value.ref (s.heap.objs.size + 1) :: ws) (V.ref (s.heap.objs.size + 1) :: vs) _ _ (room_make hr (R.cA c) us kw)
    (I2.env0.make (R.cA c) us kw) hbd (.cons rfl r) ⟨by simp [← lx, hl], _, _, _, S2, RepVs.cons ro rx2, g2⟩) fun rr s' hq => ?_))
  have bk := back_g (Q := fun v H' => v = .non ∧ Q (.ref (s.heap.objs.size + 1)) H') tk I2 rr s' hq
  cases rr with
  | error e => exact bk
  | ok fl =>
    cases fl with
    | ret u =>
      obtain ⟨v, H', I3, rv, ev, q3⟩ := bk
      subst ev
      exact ⟨rv, ⟨V.ref (s.heap.objs.size + 1), H', I3, rfl, q3⟩⟩
    | next => exact bk.elim
    | brk => exact bk.elim
    | cont => exact bk.elim
theorem mkIns_fn {mt : Bool} {c j : Nat} {xs : List PV} {st : Sto} {rho : Rho} {H : Hp} {Wx : Value → Option Addr → Hp → Prop} {Q : VK} (g : Good R (RepV R) rho H (mkIns mt c j (callK T k) xs st) Wx Q) : ∃ fi, T[j]? = some fi ∧ xs.length + 1 = fi.ps.length := by
  unfold mkIns at g
  cases k with
  | zero => exact g.elim
  | succ k =>
    simp only [callK] at g
    cases e : T[j]? with
    | none => rw [e] at g; exact g.elim
    | some fi =>
      rw [e] at g
      simp only at g
      split at g
      · rename_i h; exact ⟨fi, rfl, h⟩
      · exact g.elim
theorem pe_newG {c j : Nat} {mt : Bool} {x : Str} {p pos : Pos} {e : Expr} {es : List Expr} {as : List (D PV)} (lk : Lnk R b mN fD T X.K) (fs : Fns md R fD T X.prog X.w X.K X.mg X.base k) (hr : RoomG md.isHot (6 * k + hb md + 1) X.A) (tk : Takesm md.nc X W) (M : Mk X.K (R.cA c) (R.fA j))
    (hg : Gl X x) (hm : X.mg x = some (.ref (R.cA c))) (ha : PA X (e :: es) (tL R (callK T k) W (dArgs as)))
    (hdb : (x == ("__debug__" : Str)) = false) (he : starEach (e :: es) X.env = (false, eval e X.env) :: starEach es X.env) (hpl : (backTo pos (starEach es X.env)).any (·.1) = false) :
    PE X (.Call (.Name x p) (e :: es) [] pos) (tE R (callK T k) W (dNew mt c j as)) := by
  refine ⟨fun pins s sg H Q I ⟨rho, st, env, hE, hS, g⟩ => ?_⟩
  refine wpAny_Call_Name_kw (ld_glob I hg hm ?_ hdb)
  refine PySem.W.callWith_K (h₀ := X.base) I.ok.mod.kin M.kp (thn (ha.run pos pins s sg H _ I ⟨rho, st, env, hE, hS, Good.bnd g⟩) fun us s1 ⟨vs, H1, I1, r, q⟩ => ⟨I1.kIn, ?_⟩) he hpl
  obtain ⟨rho1, st1, xs, M1, S1, r1, g1⟩ := q
  obtain ⟨fi, hj, hl⟩ := mkIns_fn g1
  have l1 := r.length
  have l2 := r1.length
  exact run_makeG lk fs hr tk M I1 hj (fun s' a hk => ⟨us, lk.posB j fi hj s' _ hk (by simp; omega), r⟩) hl S1 r1 g1
end
end OL
set_option maxRecDepth 100000
set_option maxHeartbeats 0
/-! ## soundness: built-in functions and methods -/
namespace OL
open PySem PySem.Spec
open PyProof.Rows L2

section
variable {R : RC} {rho : Rho} {st : Sto} {H : Hp}
theorem rep1 {x : PV} {vs : List V} (h : RepVs R rho H [x] vs) : ∃ v, vs = [v] ∧ RepV R rho H x v := by
  simp only [RepVs] at h
  obtain ⟨v, r, e, h1, h2⟩ := h
  subst h2
  exact ⟨v, e, h1⟩
theorem rep2 {x y : PV} {vs : List V} (h : RepVs R rho H [x, y] vs) : ∃ v u, vs = [v, u] ∧ RepV R rho H x v ∧ RepV R rho H y u := by
  simp only [RepVs] at h
  obtain ⟨v, r, e, h1, u, r', e', h2, h3⟩ := h
  subst h3; subst e'
  exact ⟨v, u, e, h1, h2⟩
theorem lenOf_ok (S : StRep R rho st H) {x : PV} {v : V} {n : Nat} (r : RepV R rho H x v) (e : lenOf st x = some n) : LenV R.K v H n := by
  unfold lenOf at e
  split at e
  · simp only [RepV] at r; subst r
    split at e
    · rename_i hz
      cases e
      exact ⟨by rw [sizeLine_eq]; exact hz, rfl⟩
    · cases e
  · obtain ⟨xs, e1, e2⟩ := Option.map_eq_some_iff.mp e
    obtain ⟨a, vs, ev, h1, h2⟩ := seqOf_ok S r e1
    subst ev
    subst e2
    rcases h1 with h1 | h1
    · exact .inl ⟨vs, h1, h2.length⟩
    · exact .inr ⟨vs, h1, h2.length⟩
end
theorem snd_len {R : RC} : OpNSnd R bLen (fun xs H Q => ∃ x n, xs = [x] ∧ LenV R.K x H n ∧ Q (.int n) H) := by
  intro rho st H xs vs Wx Q S r g
  unfold bLen at g
  split at g
  · split at g
    · rename_i n e
      obtain ⟨v, e1, r1⟩ := rep1 r
      exact ⟨v, n, e1, lenOf_ok S r1 e, fin_i S g⟩
    · exact g.elim
  · exact g.elim
/-- int(x) of an int, a truth value, a text -/
theorem call_intT {X : Cx} : CallR X (.type "int") (fun xs H Q => ((∃ i, xs = [.int i] ∧ Q (.int i) H) ∨ ∃ k, xs = [.bl k] ∧ Q (.int (if k then 1 else 0)) H) ∨ ∃ a n, xs = [.str a] ∧ PySem.intText? a = some n ∧ a.length ≤ 640 ∧ Q (.int n) H) := fun pins s sg H xs us Q I rs h => by
  rcases h with h | h
  · exact call_int1 pins s sg H xs us Q I rs h
  · exact call_int_str pins s sg H xs us Q I rs h
theorem snd_int {R : RC} : OpNSnd R bInt (fun xs H Q => ((∃ i, xs = [.int i] ∧ Q (.int i) H) ∨ ∃ k, xs = [.bl k] ∧ Q (.int (if k then 1 else 0)) H) ∨ ∃ a n, xs = [.str a] ∧ PySem.intText? a = some n ∧ a.length ≤ 640 ∧ Q (.int n) H) := by
  intro rho st H xs vs Wx Q S r g
  unfold bInt at g
  split at g
  · obtain ⟨v, e1, r1⟩ := rep1 r
    simp only [RepV] at r1; subst r1
    exact .inl (.inl ⟨_, e1, fin_i S g⟩)
  · obtain ⟨v, e1, r1⟩ := rep1 r
    simp only [RepV] at r1; subst r1
    exact .inl (.inr ⟨_, e1, fin_i S g⟩)
  · obtain ⟨v, e1, r1⟩ := rep1 r
    simp only [RepV] at r1; subst r1
    split at g
    · rename_i n hn
      split at g
      · rename_i hl
        exact .inr ⟨_, n, e1, hn, hl, fin_i S g⟩
      · exact g.elim
    · exact g.elim
  · exact g.elim
theorem snd_abs {R : RC} : OpNSnd R bAbs (fun xs H Q => ∃ i, xs = [.int i] ∧ Q (.int (if i < 0 then -i else i)) H) := by
  intro rho st H xs vs Wx Q S r g
  unfold bAbs at g
  split at g
  · obtain ⟨v, e1, r1⟩ := rep1 r
    simp only [RepV] at r1; subst r1
    exact ⟨_, e1, fin_i S g⟩
  · exact g.elim
theorem snd_max {R : RC} : OpNSnd R bMax (fun xs H Q => ∃ i j, xs = [.int i, .int j] ∧ Q (.int (if j > i then j else i)) H) := by
  intro rho st H xs vs Wx Q S r g
  unfold bMax at g
  split at g
  · obtain ⟨v, u, e1, r1, r2⟩ := rep2 r
    simp only [RepV] at r1 r2; subst r1; subst r2
    exact ⟨_, _, e1, fin_i S g⟩
  · exact g.elim
theorem snd_min {R : RC} : OpNSnd R bMin (fun xs H Q => ∃ i j, xs = [.int i, .int j] ∧ Q (.int (if j < i then j else i)) H) := by
  intro rho st H xs vs Wx Q S r g
  unfold bMin at g
  split at g
  · obtain ⟨v, u, e1, r1, r2⟩ := rep2 r
    simp only [RepV] at r1 r2; subst r1; subst r2
    exact ⟨_, _, e1, fin_i S g⟩
  · exact g.elim
theorem snd_divmod {R : RC} : OpNSnd R bDivmod (fun xs H Q => ∃ i j, xs = [.int i, .int j] ∧ CDiv i j ∧ ∀ p, H p = none → Q (.ref p) (upd H p (.tup [.int (i / j), .int (i % j)]))) := by
  intro rho st H xs vs Wx Q S r g
  unfold bDivmod at g
  split at g
  · split at g
    · rename_i hz
      obtain ⟨v, u, e1, r1, r2⟩ := rep2 r
      simp only [RepV] at r1 r2; subst r1; subst r2
      exact ⟨_, _, e1, hz, fin_tup S (RepVs.cons (by simp only [RepV]) (RepVs.cons (by simp only [RepV]) (by simp only [RepVs]))) g⟩
    · exact g.elim
  · exact g.elim
theorem snd_str {R : RC} : OpNSnd R bStr (fun xs H Q => (∃ i, xs = [.int i] ∧ i.natAbs.log2 < 1920 ∧ Q (.str (toString i)) H) ∨ ∃ a, xs = [.str a] ∧ Q (.str a) H) := by
  intro rho st H xs vs Wx Q S r g
  unfold bStr at g
  split at g
  · split at g
    · rename_i hz
      obtain ⟨v, e1, r1⟩ := rep1 r
      simp only [RepV] at r1; subst r1
      exact .inl ⟨_, e1, hz, fin_s S g⟩
    · exact g.elim
  · obtain ⟨v, e1, r1⟩ := rep1 r
    simp only [RepV] at r1; subst r1
    exact .inr ⟨_, e1, fin_s S g⟩
  · exact g.elim
theorem or_str {X : Cx} : CallR X (.type "str") (fun xs H Q => (∃ i, xs = [.int i] ∧ i.natAbs.log2 < 1920 ∧ Q (.str (toString i)) H) ∨ ∃ a, xs = [.str a] ∧ Q (.str a) H) := CallR.or call_str_int SkE.call_str_str
/-! repr of data, dicts of ints and texts among it -/
mutual
inductive Dr (K : PySem.W.Frag) (H : Hp) : V → PyData → Prop
  | non : Dr K H .non .none
  | bl (b : Bool) : Dr K H (.bl b) (.bool b)
  | int (i : Int) : Dr K H (.int i) (.int i)
  | str (x : Str) : Dr K H (.str x) (.str x)
  | lst {a : Addr} {xs : List V} {ds : List PyData} : SqL K H a xs → DrAll K H xs ds → Dr K H (.ref a) (.list ds)
  | tup {a : Addr} {xs : List V} {ds : List PyData} : SqT K H a xs → DrAll K H xs ds → Dr K H (.ref a) (.tuple ds)
  | dct {a : Addr} {ks : List Key} {xs : List V} {ds : List PyData} : H a = some (.dK (ks.zip xs)) → ks.length = xs.length → DrAll K H xs ds → Dr K H (.ref a) (.dict ((ks.map keyD).zip ds))
inductive DrAll (K : PySem.W.Frag) (H : Hp) : List V → List PyData → Prop
  | nil : DrAll K H [] []
  | cons {v : V} {vs : List V} {d : PyData} {ds : List PyData} : Dr K H v d → DrAll K H vs ds → DrAll K H (v :: vs) (d :: ds)
end
/-- the table of the modules is no list -/
structure SysM (K : PySem.W.Frag) : Prop where
  ex : ∃ o, K.lookup sysModules = some o ∧ o.cls ≠ .type "list"
theorem DrAll.length {K : PySem.W.Frag} {H : Hp} : ∀ {vs : List V} {ds : List PyData}, DrAll K H vs ds → vs.length = ds.length
  | _, _, .nil => rfl
  | _, _, .cons _ h => by rw [List.length_cons, List.length_cons, DrAll.length h]
theorem key_reads {h : Heap} {prog : Program} {w : World} {es : List DictEntry} {kvs : List (Key × Value)} (p : Pairs (mixKind prog w) es kvs) : ReadsAll h (es.map (·.key)) (kvs.map fun p => keyD p.1) [] ∧ es.map (·.val) = kvs.map (·.2) := by
  induction p with
  | nil => exact ⟨.nil, rfl⟩
  | @cons e kv es kvs p1 p2 p3 ih =>
    obtain ⟨h1, h2⟩ := ih
    refine ⟨?_, by rw [List.map_cons, List.map_cons, h2, p2]⟩
    have e1 : Reads h e.key (keyD kv.1) [] := by
      rcases keyIs_shape p1 with ⟨i, t, e1, e2⟩ | ⟨x, t, e1, e2⟩
      · rw [e1, e2]; exact .int i t
      · rw [e1, e2]; exact .str x t
    exact ReadsAll.cons (as := []) (bs := []) e1 h1
section
variable {X : Cx} {pins : List (Addr × Obj)} {sg : L2.St} {H : Hp} {s : Shared}
theorem kv_vals {kvs : List (Key × V)} {vs : List (Key × Value)} (r : KV kvs vs) : vs.map (·.1) = kvs.map (·.1) ∧ Vals (kvs.map (·.2)) (vs.map (·.2)) := by
  unfold KV at r
  induction r with
  | nil => exact ⟨rfl, .nil⟩
  | cons h t ih => exact ⟨by rw [List.map_cons, List.map_cons, ih.1, h.1], .cons h.2 ih.2⟩
mutual
theorem Dr.reads (sm : SysM X.K) (I : Inv X pins sg H s) : ∀ {v : V} {d : PyData}, Dr X.K H v d → ∀ u : Value, RelV v u → ∃ as, Reads s.heap u d as ∧ sysModules ∉ as
  | _, _, .non, u, r => by
    cases r
    exact ⟨_, Reads.none, by simp⟩
  | _, _, .bl b, u, r => by
    cases r
    exact ⟨_, Reads.bool b, by simp⟩
  | _, _, .int i, u, r => by
    obtain ⟨t, rfl⟩ := r
    exact ⟨_, Reads.int i t, by simp⟩
  | _, _, .str x, u, r => by
    obtain ⟨t, rfl⟩ := r
    exact ⟨_, Reads.str x t, by simp⟩
  | _, _, .lst hs ha, u, r => by
    cases r
    obtain ⟨its, rv, ⟨o, n, ho, hc, _, hd⟩, _⟩ := I.list hs
    obtain ⟨as, hr, hn⟩ := DrAll.reads sm I ha its rv
    refine ⟨_, Reads.list ho hc hd hr, fun z => ?_⟩
    rcases List.mem_cons.mp z with z | z
    · obtain ⟨o2, q1, q2⟩ := sm.ex
      have := I.kIn _ _ q1
      rw [z] at this
      rw [ho] at this
      cases this
      exact q2 hc
    · exact hn z
  | _, _, .tup hs ha, u, r => by
    cases r
    obtain ⟨its, rv, ⟨o, ho, hc, n, hd⟩, _⟩ := I.tuple hs
    obtain ⟨as, hr, hn⟩ := DrAll.reads sm I ha its rv
    exact ⟨_, Reads.tuple ho hc hd hr, hn⟩
  | _, _, .dct (a := a) (ks := ks) (xs := xs) (ds := ds) hd hl ha, u, r => by
    cases r
    obtain ⟨z, hm, vs, rk, ⟨o, es, ep, h1, h2, h3, h4, h5, h6⟩⟩ := dk_of I.hok hd
    have ls := ha.length
    have e1 : (ks.zip xs).map (·.1) = ks := List.map_fst_zip (by omega)
    have e2 : (ks.zip xs).map (·.2) = xs := List.map_snd_zip (by omega)
    obtain ⟨r1, r2⟩ := kv_vals rk
    rw [e2] at r2
    obtain ⟨k1, k2⟩ := key_reads (h := s.heap) h5
    obtain ⟨as, hr, hn⟩ := DrAll.reads sm I ha _ r2
    have z1 : ((ks.map keyD).zip ds).map (·.1) = vs.map fun p => keyD p.1 := by
      rw [List.map_fst_zip (by rw [List.length_map]; omega)]
      rw [show (vs.map fun p => keyD p.1) = (vs.map (·.1)).map keyD by rw [List.map_map]; rfl, r1, e1]
    have z2 : ((ks.map keyD).zip ds).map (·.2) = ds := List.map_snd_zip (by rw [List.length_map]; omega)
    refine ⟨_, Reads.dict (as := []) (bs := as) h1 h2.1 h3 (by rw [z1]; exact k1) (by rw [z2, k2]; exact hr), fun q => ?_⟩
    simp only [List.cons_append, List.nil_append] at q
    rcases List.mem_cons.mp q with q | q
    · rw [q] at hm
      simp at hm
    · exact hn q
theorem DrAll.reads (sm : SysM X.K) (I : Inv X pins sg H s) : ∀ {vs : List V} {ds : List PyData}, DrAll X.K H vs ds → ∀ us : List Value, Vals vs us → ∃ as, ReadsAll s.heap us ds as ∧ sysModules ∉ as
  | _, _, .nil, us, r => by
    cases r
    exact ⟨_, ReadsAll.nil, by simp⟩
  | _, _, .cons h1 h2, us, r => by
    cases r with
    | cons r1 r2 =>
      obtain ⟨as, q1, n1⟩ := Dr.reads sm I h1 _ r1
      obtain ⟨bs, q2, n2⟩ := DrAll.reads sm I h2 _ r2
      refine ⟨_, ReadsAll.cons q1 q2, fun z => ?_⟩
      rcases List.mem_append.mp z with z | z
      · exact n1 z
      · exact n2 z
end
end
def rRepr (K : PySem.W.Frag) : List V → Hp → VK → Prop := fun xs H Q => ∃ v d, xs = [v] ∧ Dr K H v d ∧ d.showable = true ∧ d.depth ≤ 64 ∧ d.shown.length ≤ sizeLine ∧ Q (.str d.shown) H
theorem call_reprD {X : Cx} (sm : SysM X.K) (hg : X.A.guards = some []) (hu : X.A.units + 80 < cLine) : CallR X (.builtin "repr") (rRepr X.K) := by
  intro pins s sg H xs us Q I r h
  obtain ⟨v, d, rfl, hd, h2, h4, h5, q⟩ := h
  obtain ⟨u, rfl, ru⟩ := vals1 r
  obtain ⟨as, rd, hn⟩ := Dr.reads sm I hd u ru
  have ref : ∀ a, u = .ref a → wpAny (model X.prog X.w) X.A (call (.builtin "repr") [u]) (EP X pins sg Q) X.xe s := fun a e => by
    subst e
    exact repr_of_reads' rd h2 (fun _ => hn) hg (by omega) (fun _ _ e => e) (fun h' u tk hk => ⟨.str d.shown, H, I.kept hk, ⟨_, rfl⟩, q⟩) h5
  cases rd with
  | none => exact PySem.P.repr_of_none ⟨.str _, H, I.tok _, ⟨_, rfl⟩, q⟩
  | bool b => exact PySem.P.repr_of_bool ⟨.str _, H, I.tok _, ⟨_, rfl⟩, q⟩
  | int i t =>
    simp only [PyData.showable, decide_eq_true_eq] at h2
    exact PySem.P.repr_of_int h2 ⟨.str _, H, I.tok _, ⟨_, rfl⟩, q⟩
  | str x t => exact PySem.P.repr_of_str ⟨.str _, H, I.tok _, ⟨_, rfl⟩, q⟩ h5
  | list _ _ _ _ => exact ref _ rfl
  | tuple _ _ _ _ => exact ref _ rfl
  | dict _ _ _ _ _ => exact ref _ rfl
section
variable {R : RC} {rho : Rho} {st : Sto} {H : Hp}
theorem deepR_all {n : Nat} (ih : ∀ (x : PV) (v : V) (d : PyData), RepV R rho H x v → deepR st n x = some d → Dr R.K H v d) : ∀ (xs : List PV) (vs : List V) (ds : List PyData), RepVs R rho H xs vs → mapO (deepR st n) xs = some ds → DrAll R.K H vs ds
  | [], vs, ds, r, e => by
    simp only [mapO] at e
    cases e
    simp only [RepVs] at r
    subst r
    exact .nil
  | x :: xs, vs, ds, r, e => by
    simp only [RepVs] at r
    obtain ⟨v, t, ev, r1, r2⟩ := r
    subst ev
    simp only [mapO] at e
    split at e
    · rename_i y ys e1 e2
      cases e
      exact .cons (ih x v y r1 e1) (deepR_all ih xs t ys r2 e2)
    · cases e
theorem deepR_ok (S : StRep R rho st H) : ∀ (n : Nat) (x : PV) (v : V) (d : PyData), RepV R rho H x v → deepR st n x = some d → Dr R.K H v d
  | 0, x, v, d, r, e => by simp [deepR] at e
  | n + 1, x, v, d, r, e => by
    have ih := deepR_ok S n
    cases x with
    | non => simp only [deepR] at e; cases e; simp only [RepV] at r; subst r; exact .non
    | bl b => simp only [deepR] at e; cases e; simp only [RepV] at r; subst r; exact .bl b
    | int b => simp only [deepR] at e; cases e; simp only [RepV] at r; subst r; exact .int b
    | str b => simp only [deepR] at e; cases e; simp only [RepV] at r; subst r; exact .str b
    | tup xs =>
      simp only [deepR] at e
      obtain ⟨ds, e1, e2⟩ := Option.map_eq_some_iff.mp e
      subst e2
      obtain ⟨a, vs, ev, h1, h2⟩ := seqOf_ok S r (show seqOf st (.tup xs) = some xs from rfl)
      subst ev
      simp only [RepV] at r
      obtain ⟨a', vs', ev, t, q⟩ := r
      cases ev
      exact .tup t.sq (deepR_all ih xs vs' ds q e1)
    | kt xs =>
      simp only [deepR] at e
      obtain ⟨ds, e1, e2⟩ := Option.map_eq_some_iff.mp e
      subst e2
      simp only [RepV] at r
      obtain ⟨a, vs, ev, t, q⟩ := r
      subst ev
      exact .tup (.inr t) (deepR_all ih xs vs ds q e1)
    | lv xs =>
      simp only [deepR] at e
      obtain ⟨ds, e1, e2⟩ := Option.map_eq_some_iff.mp e
      subst e2
      obtain ⟨a, vs, ev, h1, h2⟩ := listOf_ok S r (show listOf st (.lv xs) = some xs from rfl)
      subst ev
      exact .lst h1 (deepR_all ih xs vs ds h2 e1)
    | fl xs =>
      simp only [deepR] at e
      obtain ⟨ds, e1, e2⟩ := Option.map_eq_some_iff.mp e
      subst e2
      obtain ⟨a, vs, ev, h1, h2⟩ := listOf_ok S r (show listOf st (.fl xs) = some xs from rfl)
      subst ev
      exact .lst h1 (deepR_all ih xs vs ds h2 e1)
    | obj k =>
      simp only [deepR] at e
      split at e
      · rename_i xs en
        obtain ⟨ds, e1, e2⟩ := Option.map_eq_some_iff.mp e
        subst e2
        obtain ⟨a, vs, ev, h1, h2⟩ := listOf_ok S r (show listOf st (.obj k) = some xs by simp only [listOf, en])
        subst ev
        exact .lst h1 (deepR_all ih xs vs ds h2 e1)
      · rename_i ks xs en
        split at e
        · rename_i hl
          obtain ⟨ds, e1, e2⟩ := Option.map_eq_some_iff.mp e
          subst e2
          simp only [RepV] at r
          obtain ⟨b, ev, _, hu⟩ := r
          subst ev
          obtain ⟨a, vs, ea, h, l, q⟩ := S.cell k _ en
          cases hu a ea
          exact .dct h (by rw [l]; exact q.length) (deepR_all ih xs vs ds q e1)
        · cases e
      · cases e
    | dv ks xs =>
      simp only [deepR] at e
      split at e
      · rename_i ks' ek
        split at e
        · rename_i hl
          obtain ⟨ds, e1, e2⟩ := Option.map_eq_some_iff.mp e
          subst e2
          simp only [RepV] at r
          obtain ⟨a, kvs, ev, h1, h2, h3, h4⟩ := r
          subst ev
          have hk : ∀ (ks : List PV) (ks' : List Key) (kvs : List (Key × V)), keysOf ks = some ks' → RepVs R rho H ks (kvs.map fun p => kV p.1) → kvs.map (·.1) = ks' := by
            intro ks
            induction ks with
            | nil =>
              intro ks' kvs e r
              simp only [keysOf] at e
              cases e
              simp only [RepVs, List.map_eq_nil_iff] at r
              subst r; rfl
            | cons k ks ih =>
              intro ks' kvs e r
              simp only [keysOf] at e
              split at e
              · rename_i k' ks2 q1 q2
                cases e
                simp only [RepVs] at r
                obtain ⟨v, r', ev, r1, r2⟩ := r
                cases kvs with
                | nil => cases ev
                | cons p kvs =>
                  rw [List.map_cons] at ev
                  obtain ⟨ev1, ev2⟩ := List.cons.inj ev
                  subst ev2
                  rw [List.map_cons, ih ks2 kvs q2 r2]
                  congr 1
                  cases k with
                  | int i =>
                    simp only [keyOf] at q1
                    cases q1
                    simp only [RepV] at r1
                    rw [r1] at ev1
                    cases hp : p.1 with
                    | inl j => rw [hp] at ev1; have : V.int j = V.int i := ev1; cases this; rfl
                    | inr j => rw [hp] at ev1; have : V.str j = V.int i := ev1; cases this
                  | str i =>
                    simp only [keyOf] at q1
                    cases q1
                    simp only [RepV] at r1
                    rw [r1] at ev1
                    cases hp : p.1 with
                    | inl j => rw [hp] at ev1; have : V.int j = V.str i := ev1; cases this
                    | inr j => rw [hp] at ev1; have : V.str j = V.str i := ev1; cases this; rfl
                  | _ => simp only [keyOf] at q1; cases q1
              · cases e
          have hk2 := hk ks ks' kvs ek h3
          have hz : kvs = ks'.zip (kvs.map (·.2)) := by
            rw [← hk2]
            clear hk2 h1 h3 h4 hk
            induction kvs with
            | nil => rfl
            | cons p kvs ih => rw [List.map_cons, List.map_cons, List.zip_cons_cons, ← ih]
          rw [hz] at h1
          exact .dct h1 (by rw [hl]; exact h4.length) (deepR_all ih xs _ ds h4 e1)
        · cases e
      · cases e
    | _ => simp only [deepR] at e; cases e
end
theorem snd_repr {R : RC} : OpNSnd R bRepr (rRepr R.K) := by
  intro rho st H xs vs Wx Q S r g
  unfold bRepr at g
  split at g
  · split at g
    · rename_i z e
      obtain ⟨v, e1, r1⟩ := rep1 r
      unfold reprOf at e
      split at e
      · rename_i d ed
        split at e
        · rename_i hc
          cases e
          simp only [Bool.and_eq_true, decide_eq_true_eq] at hc
          obtain ⟨⟨c2, c4⟩, c5⟩ := hc
          exact ⟨v, d, e1, deepR_ok S _ _ _ _ r1 ed, c2, c4, by rw [sizeLine_eq]; exact c5, fin_s S g⟩
        · cases e
      · cases e
    · exact g.elim
  · exact g.elim
section
variable {R : RC} {rho : Rho} {H : Hp}
theorem allBl_ok : ∀ {xs : List PV} {vs : List V} {bs : List Bool}, RepVs R rho H xs vs → allBl xs = some bs → vs = bs.map V.bl
  | [], vs, bs, r, e => by simp only [RepVs] at r; subst r; simp only [allBl] at e; cases e; rfl
  | x :: xs, vs, bs, r, e => by
    simp only [RepVs] at r
    obtain ⟨v, r', ev, h1, h2⟩ := r
    subst ev
    cases x with
    | bl b =>
      simp only [allBl] at e
      obtain ⟨t, e1, e2⟩ := Option.map_eq_some_iff.mp e
      subst e2
      simp only [RepV] at h1
      rw [h1, allBl_ok h2 e1]
      rfl
    | _ => simp only [allBl] at e; cases e
theorem allInt_ok : ∀ {xs : List PV} {vs : List V} {bs : List Int}, RepVs R rho H xs vs → allInt xs = some bs → vs = bs.map V.int
  | [], vs, bs, r, e => by simp only [RepVs] at r; subst r; simp only [allInt] at e; cases e; rfl
  | x :: xs, vs, bs, r, e => by
    simp only [RepVs] at r
    obtain ⟨v, r', ev, h1, h2⟩ := r
    subst ev
    cases x with
    | int b =>
      simp only [allInt] at e
      obtain ⟨t, e1, e2⟩ := Option.map_eq_some_iff.mp e
      subst e2
      simp only [RepV] at h1
      rw [h1, allInt_ok h2 e1]
      rfl
    | _ => simp only [allInt] at e; cases e
theorem allStr_ok : ∀ {xs : List PV} {vs : List V} {bs : List Str}, RepVs R rho H xs vs → allStr xs = some bs → vs = bs.map V.str
  | [], vs, bs, r, e => by simp only [RepVs] at r; subst r; simp only [allStr] at e; cases e; rfl
  | x :: xs, vs, bs, r, e => by
    simp only [RepVs] at r
    obtain ⟨v, r', ev, h1, h2⟩ := r
    subst ev
    cases x with
    | str b =>
      simp only [allStr] at e
      obtain ⟨t, e1, e2⟩ := Option.map_eq_some_iff.mp e
      subst e2
      simp only [RepV] at h1
      rw [h1, allStr_ok h2 e1]
      rfl
    | _ => simp only [allStr] at e; cases e
end
theorem snd_all {R : RC} : OpNSnd R bAll (rAll R.K) := by
  intro rho st H xs vs Wx Q S r g
  unfold bAll at g
  split at g
  · split at g
    · rename_i bs e
      obtain ⟨v, e1, r1⟩ := rep1 r
      obtain ⟨ys, e2, e3⟩ := Option.bind_eq_some_iff.mp e
      obtain ⟨a, us, e4, h1, h2⟩ := listOf_ok S r1 e2
      subst e4
      rw [allBl_ok h2 e3] at h1
      exact ⟨a, bs, e1, h1, fin_b S g⟩
    · exact g.elim
  · exact g.elim
theorem snd_any {R : RC} : OpNSnd R bAny (rAny R.K) := by
  intro rho st H xs vs Wx Q S r g
  unfold bAny at g
  split at g
  · split at g
    · rename_i bs e
      obtain ⟨v, e1, r1⟩ := rep1 r
      obtain ⟨ys, e2, e3⟩ := Option.bind_eq_some_iff.mp e
      obtain ⟨a, us, e4, h1, h2⟩ := listOf_ok S r1 e2
      subst e4
      rw [allBl_ok h2 e3] at h1
      exact ⟨a, bs, e1, h1, fin_b S g⟩
    · exact g.elim
  · exact g.elim
theorem snd_sum {R : RC} : OpNSnd R bSum (rSum R.K) := by
  intro rho st H xs vs Wx Q S r g
  unfold bSum at g
  split at g
  · split at g
    · rename_i bs e
      obtain ⟨v, e1, r1⟩ := rep1 r
      obtain ⟨ys, e2, e3⟩ := Option.bind_eq_some_iff.mp e
      obtain ⟨a, us, e4, h1, h2⟩ := listOf_ok S r1 e2
      subst e4
      rw [allInt_ok h2 e3] at h1
      exact ⟨a, bs, e1, h1, fin_i S g⟩
    · exact g.elim
  · exact g.elim
theorem snd_list {R : RC} {mt : Bool} : OpNSnd R (bList mt) (fun xs H Q => ∃ p ys, xs = [.ref p] ∧ (SqL R.K H p ys ∨ SqT R.K H p ys) ∧ ∀ l, H l = none → Q (.ref l) (upd H l (.lst ys))) := by
  intro rho st H xs vs Wx Q S r g
  unfold bList at g
  split at g
  · split at g
    · rename_i ys e
      obtain ⟨v, e1, r1⟩ := rep1 r
      obtain ⟨a, us, e4, h1, h2⟩ := seqOf_ok S r1 e
      subst e4
      exact ⟨a, us, e1, h1, new_list S h2 g⟩
    · exact g.elim
  · exact g.elim
theorem snd_tuple {R : RC} : OpNSnd R bTuple (fun xs H Q => ∃ p ys, xs = [.ref p] ∧ ((SqL R.K H p ys ∧ ∀ l, H l = none → Q (.ref l) (upd H l (.tup ys))) ∨ (SqT R.K H p ys ∧ Q (.ref p) H))) := by
  intro rho st H xs vs Wx Q S r g
  unfold bTuple at g
  split at g
  · obtain ⟨v, e1, r1⟩ := rep1 r
    have r2 := r1
    simp only [RepV] at r1
    obtain ⟨a, us, e4, h1, h2⟩ := r1
    subst e4
    exact ⟨a, us, e1, .inr ⟨.inr h1, fin_v S r2 g⟩⟩
  · split at g
    · rename_i x hx _ ys e
      obtain ⟨v, e1, r1⟩ := rep1 r
      cases x with
      | tup zs =>
        simp only [seqOf] at e
        cases e
        have r2 := r1
        simp only [RepV] at r1
        obtain ⟨a, us, e4, h1, h2⟩ := r1
        subst e4
        exact ⟨a, us, e1, .inr ⟨h1.sq, fin_v S r2 g⟩⟩
      | kt zs => exact (hx zs rfl).elim
      | lv zs =>
        obtain ⟨a, us, e4, h1, h2⟩ := listOf_ok S r1 e
        subst e4
        exact ⟨a, us, e1, .inl ⟨h1, fin_tup S h2 g⟩⟩
      | fl zs =>
        obtain ⟨a, us, e4, h1, h2⟩ := listOf_ok S r1 e
        subst e4
        exact ⟨a, us, e1, .inl ⟨h1, fin_tup S h2 g⟩⟩
      | obj n =>
        obtain ⟨a, us, e4, h1, h2⟩ := listOf_ok S r1 e
        subst e4
        exact ⟨a, us, e1, .inl ⟨h1, fin_tup S h2 g⟩⟩
      | _ => simp only [seqOf] at e; cases e
    · exact g.elim
  · exact g.elim
/-! ### isinstance -/
structure IsiF (R : RC) (isa : Nat → Nat → Option Bool) (K : PySem.W.Frag) : Prop where
  cc : ∀ c d r, isa c d = some r → PySem.W.kitOne K (.ref (R.cA c)) (.ref (R.cA d)) = some r
  bc : ∀ (n : Nat) c r, isa c c = some r → PySem.W.kitOne K (.type (tyN n)) (.ref (R.cA c)) = some false
  cb : ∀ c (m : Nat) r, m < 6 → isa c c = some r → PySem.W.kitOne K (.ref (R.cA c)) (.type (tyN m)) = some false
  own : ∀ c d r, isa c d = some r → Cls K (R.cA c) ∧ PySem.W.findIn K (.ref (R.cA c)) "__class__" = some (some (.builtin "object.__class__")) ∧
    PySem.W.specialIn K (.builtin "object.__class__") "__get__" = some (some (.builtin "getset_descriptor.__get__")) ∧ PySem.W.takesIn K (.builtin "object.__class__") = some true ∧ PySem.W.mroIn K (R.cA c) (.type "object") = some true
structure IsxF (R : RC) (xi : Nat → Bool → Nat → Option Bool) (K : PySem.W.Frag) : Prop where
  cls : ∀ c d r, xi c false d = some r → ExcC K (R.cA c) ∧ PySem.W.kitOne K (.ref (R.cA c)) (.ref (R.cA d)) = some r
  typ : ∀ c d r, xi c true d = some r → ExcC K (R.cA c) ∧ PySem.W.kitOne K (.ref (R.cA c)) (.type (tyN d)) = some r
/-- isinstance(e, c), e an exception as a value -/
def rIsX (K : PySem.W.Frag) : List V → Hp → VK → Prop := fun xs H Q => ∃ (a C : Addr) (oe : Obj) (c : V) (cv : Value) (b : Bool), xs = [.ref a, c] ∧ H a = some (xo a oe) ∧ oe.cls = .ref C ∧ (∃ vs, oe.data = .fields vs) ∧ (oe.dict = none ∨ ∃ dd fs, oe.dict = some dd ∧ H dd = some (.xd fs)) ∧ ExcC K C ∧ (∀ u, RelV c u → u = cv) ∧
  PySem.W.kitOne K (.ref C) cv = some b ∧ Q (.bl b) H
theorem call_isX {X : Cx} : CallR X (.builtin "isinstance") (rIsX X.K) := by
  intro pins s sg H xs us Q I r h
  obtain ⟨a, C, oe, c, cv, b, rfl, ha, hc, ⟨vs, hv⟩, hd, T, hcv, e, q⟩ := h
  cases r with
  | cons rx rr =>
    cases rr with
    | cons rt rr =>
      cases rr
      cases rx
      have ec := hcv _ rt
      subst ec
      have hx : ObjOk X.prog X.w H s.heap a (.ext fun h => h.get? a = some oe) := I.hok a _ ha
      have fin : ∀ od : Option Obj, PySem.W.InstAt s.heap a oe C od → wpAny (model X.prog X.w) X.A (call (.builtin "isinstance") [.ref a, _]) (EP X pins sg Q) X.xe s := fun od J =>
        PySem.W.kia_one (PySem.W.kitx_exc (by have := T.hd; unfold PySem.W.hasDictIn at this; cases z : PySem.W.clsIn X.K C with | none => rw [z] at this; cases this | some cd => rfl) T.hg T.hk T.hs T.ha T.hn T.ht T.hm) I.kIn J e (fun z => nomatch z) fun tk => ⟨.bl b, H, I.kept (t' := tk) fun _ _ z => z, rfl, q⟩
      rcases hd with hd | ⟨dd, fs, hd, hf⟩
      · exact fin none ⟨hx.1, hc, by unfold PySem.W.notCls; rw [hv], by rw [hd]; trivial⟩
      · have hy : ObjOk X.prog X.w H s.heap dd (.xd fs) := I.hok dd _ hf
        obtain ⟨mA, hns, _⟩ := hy
        obtain ⟨od, ho, _⟩ := lookIn_ns hns
        exact fin (some od) ⟨hx.1, hc, by unfold PySem.W.notCls; rw [hv], by rw [hd]; exact ho⟩
theorem or_isi {X : Cx} : CallR X (.builtin "isinstance") (fun xs H Q => rIsi X.K xs H Q ∨ rIsX X.K xs H Q) := CallR.or call_isi call_isX
def tyVal (R : RC) : Ty → Value
  | .b n => .type (tyN n)
  | .c c => .ref (R.cA c)
  | .x c => .ref (R.cA c)
theorem tyOf_ok {R : RC} {rho : Rho} {st : Sto} {H : Hp} {x : PV} {v : V} {t : Ty} (S : StRep R rho st H) (r : RepV R rho H x v) (e : tyOf st x = some t) (nx : ∀ c, t ≠ .x c)
    (own : ∀ c, t = .c c → Cls R.K (R.cA c) ∧ PySem.W.findIn R.K (.ref (R.cA c)) "__class__" = some (some (.builtin "object.__class__")) ∧
      PySem.W.specialIn R.K (.builtin "object.__class__") "__get__" = some (some (.builtin "getset_descriptor.__get__")) ∧ PySem.W.takesIn R.K (.builtin "object.__class__") = some true ∧ PySem.W.mroIn R.K (R.cA c) (.type "object") = some true) : TyX R.K H v (tyVal R t) := by
  cases x with
  | non => simp only [tyOf] at e; cases e; simp only [RepV] at r; subst r; exact .base .non
  | bl b => simp only [tyOf] at e; cases e; simp only [RepV] at r; subst r; exact .base (.bl b)
  | int b => simp only [tyOf] at e; cases e; simp only [RepV] at r; subst r; exact .base (.int b)
  | str b => simp only [tyOf] at e; cases e; simp only [RepV] at r; subst r; exact .base (.str b)
  | tup xs =>
    simp only [tyOf] at e; cases e
    simp only [RepV] at r
    obtain ⟨a, vs, ev, t, _⟩ := r
    subst ev
    exact .base (.tup t.1)
  | kt xs =>
    simp only [tyOf] at e; cases e
    simp only [RepV] at r
    obtain ⟨a, vs, ev, t, _⟩ := r
    subst ev
    obtain ⟨o, its, n, h1, h2, _⟩ := t
    exact .kTuple h1 h2
  | lv xs =>
    simp only [tyOf] at e; cases e
    simp only [RepV] at r
    obtain ⟨a, vs, ev, h, _⟩ := r
    subst ev
    exact .base (.lst h)
  | fl xs =>
    simp only [tyOf] at e; cases e
    simp only [RepV] at r
    obtain ⟨a, vs, ev, t, _⟩ := r
    subst ev
    rcases t with ⟨o, h, _⟩ | ⟨o, its, n, h1, h2, _⟩
    · exact .base (.frz h)
    · exact .kList h1 h2
  | dv ks xs =>
    simp only [tyOf] at e; cases e
    simp only [RepV] at r
    obtain ⟨a, vs, ev, h, _⟩ := r
    subst ev
    exact .base (.dK h)
  | iv c ks xs =>
    simp only [tyOf] at e; cases e
    simp only [RepV] at r
    obtain ⟨a, dx, vs, ev, h, _⟩ := r
    subst ev
    obtain ⟨h1, h2, h3, h4, h5⟩ := own c rfl
    exact .base (.ins h h1 h2 h3 h4 h5)
  | obj n =>
    simp only [tyOf] at e
    split at e
    · rename_i xs en
      cases e
      obtain ⟨a, vs, ev, _, h, _⟩ := obj_list S r en
      subst ev
      exact .base (.lst h)
    · rename_i c ks xs en
      cases e
      obtain ⟨a, dx, vs, ev, _, h, _⟩ := obj_ins S r en
      subst ev
      obtain ⟨h1, h2, h3, h4, h5⟩ := own c rfl
      exact .base (.ins h h1 h2 h3 h4 h5)
    · rename_i ks xs en
      cases e
      simp only [RepV] at r
      obtain ⟨b, e1, _, hu⟩ := r
      subst e1
      obtain ⟨a, kvs, ea, h, _⟩ := S.cell n _ en
      cases hu a ea; exact .base (.dK h)
    · rename_i ks xs en
      cases e
      simp only [RepV] at r
      obtain ⟨b, e1, _, hu⟩ := r
      subst e1
      obtain ⟨a, kvs, ea, h, _⟩ := S.cell n _ en
      cases hu a ea; exact .base (.dT h)
    · cases e
  | xv c ks xs => simp only [tyOf] at e; cases e; exact absurd rfl (nx c)
  | _ => simp only [tyOf] at e; cases e
theorem kitB_all (K : PySem.W.Frag) : ∀ n m : Nat, n < 7 → m < 7 → PySem.W.kitOne K (.type (tyN n)) (.type (tyN m)) = some (n == m || (n == 1 && m == 0))
  | 0, 0, _, _ => kit_ty (by decide +kernel)
  | 0, 1, _, _ => kit_ty (by decide +kernel)
  | 0, 2, _, _ => kit_ty (by decide +kernel)
  | 0, 3, _, _ => kit_ty (by decide +kernel)
  | 0, 4, _, _ => kit_ty (by decide +kernel)
  | 0, 5, _, _ => kit_ty (by decide +kernel)
  | 0, 6, _, _ => kit_ty (by decide +kernel)
  | 1, 0, _, _ => kit_ty (by decide +kernel)
  | 1, 1, _, _ => kit_ty (by decide +kernel)
  | 1, 2, _, _ => kit_ty (by decide +kernel)
  | 1, 3, _, _ => kit_ty (by decide +kernel)
  | 1, 4, _, _ => kit_ty (by decide +kernel)
  | 1, 5, _, _ => kit_ty (by decide +kernel)
  | 1, 6, _, _ => kit_ty (by decide +kernel)
  | 2, 0, _, _ => kit_ty (by decide +kernel)
  | 2, 1, _, _ => kit_ty (by decide +kernel)
  | 2, 2, _, _ => kit_ty (by decide +kernel)
  | 2, 3, _, _ => kit_ty (by decide +kernel)
  | 2, 4, _, _ => kit_ty (by decide +kernel)
  | 2, 5, _, _ => kit_ty (by decide +kernel)
  | 2, 6, _, _ => kit_ty (by decide +kernel)
  | 3, 0, _, _ => kit_ty (by decide +kernel)
  | 3, 1, _, _ => kit_ty (by decide +kernel)
  | 3, 2, _, _ => kit_ty (by decide +kernel)
  | 3, 3, _, _ => kit_ty (by decide +kernel)
  | 3, 4, _, _ => kit_ty (by decide +kernel)
  | 3, 5, _, _ => kit_ty (by decide +kernel)
  | 3, 6, _, _ => kit_ty (by decide +kernel)
  | 4, 0, _, _ => kit_ty (by decide +kernel)
  | 4, 1, _, _ => kit_ty (by decide +kernel)
  | 4, 2, _, _ => kit_ty (by decide +kernel)
  | 4, 3, _, _ => kit_ty (by decide +kernel)
  | 4, 4, _, _ => kit_ty (by decide +kernel)
  | 4, 5, _, _ => kit_ty (by decide +kernel)
  | 4, 6, _, _ => kit_ty (by decide +kernel)
  | 5, 0, _, _ => kit_ty (by decide +kernel)
  | 5, 1, _, _ => kit_ty (by decide +kernel)
  | 5, 2, _, _ => kit_ty (by decide +kernel)
  | 5, 3, _, _ => kit_ty (by decide +kernel)
  | 5, 4, _, _ => kit_ty (by decide +kernel)
  | 5, 5, _, _ => kit_ty (by decide +kernel)
  | 5, 6, _, _ => kit_ty (by decide +kernel)
  | 6, 0, _, _ => kit_ty (by decide +kernel)
  | 6, 1, _, _ => kit_ty (by decide +kernel)
  | 6, 2, _, _ => kit_ty (by decide +kernel)
  | 6, 3, _, _ => kit_ty (by decide +kernel)
  | 6, 4, _, _ => kit_ty (by decide +kernel)
  | 6, 5, _, _ => kit_ty (by decide +kernel)
  | 6, 6, _, _ => kit_ty (by decide +kernel)
  | n + 7, _, h, _ => absurd h (by omega)
  | _, m + 7, _, h => absurd h (by omega)
theorem snd_isi {R : RC} {isa : Nat → Nat → Option Bool} {xi : Nat → Bool → Nat → Option Bool} (hf : IsiF R isa R.K) (hx : IsxF R xi R.K) : OpNSnd R (bIsi isa xi) (fun xs H Q => rIsi R.K xs H Q ∨ rIsX R.K xs H Q) := by
  intro rho st H xs vs Wx Q S r g
  cases xs with
  | nil => exact g.elim
  | cons x xs =>
    cases xs with
    | nil => exact g.elim
    | cons c xs =>
      cases xs with
      | cons _ _ => exact g.elim
      | nil =>
        simp only [bIsi] at g
        cases et : tyOf st x with
        | none => rw [et] at g; exact g.elim
        | some t =>
          rw [et] at g
          simp only at g
          cases eb : isiP isa xi t c with
          | none => rw [eb] at g; exact g.elim
          | some b =>
            rw [eb] at g
            obtain ⟨v, u, e1, r1, r2⟩ := rep2 r
            cases t with
            | b n =>
              have ty := tyOf_ok S r1 et (fun c q => by cases q) (fun c q => by cases q)
              cases c with
              | ty m =>
                simp only [isiP] at eb
                split at eb
                · rename_i hn
                  cases eb
                  simp only [RepV] at r2
                  subst r2
                  exact .inl ⟨v, .ty (tyN m), _, .type (tyN m), _, e1, .ty _, ty, kitB_all R.K n m hn.1 hn.2, fin_b S g⟩
                · cases eb
              | cls d =>
                simp only [isiP] at eb
                obtain ⟨q, h1, h2⟩ := Option.map_eq_some_iff.mp eb
                cases h2
                simp only [RepV] at r2
                subst r2
                exact .inl ⟨v, _, _, .ref (R.cA d), _, e1, .own _, ty, hf.bc n d q h1, fin_b S g⟩
              | _ => simp only [isiP] at eb; cases eb
            | c d =>
              cases c with
              | ty m =>
                simp only [isiP] at eb
                split at eb
                · rename_i hn
                  obtain ⟨q, h1, h2⟩ := Option.map_eq_some_iff.mp eb
                  cases h2
                  simp only [RepV] at r2
                  subst r2
                  have ty := tyOf_ok S r1 et (fun c q => by cases q) (fun c q' => by cases q'; exact hf.own d d q h1)
                  exact .inl ⟨v, .ty (tyN m), _, .type (tyN m), _, e1, .ty _, ty, hf.cb d m q hn h1, fin_b S g⟩
                · cases eb
              | cls e =>
                simp only [isiP] at eb
                simp only [RepV] at r2
                subst r2
                have ty := tyOf_ok S r1 et (fun c q => by cases q) (fun c q' => by cases q'; exact hf.own d e b eb)
                exact .inl ⟨v, _, _, .ref (R.cA e), _, e1, .own _, ty, hf.cc d e b eb, fin_b S g⟩
              | _ => simp only [isiP] at eb; cases eb
            | x d =>
              have xr : ∀ (cv : V) (w' : Value), u = cv → ExcC R.K (R.cA d) → (∀ z, RelV cv z → z = w') → PySem.W.kitOne R.K (.ref (R.cA d)) w' = some b → rIsX R.K vs H Q := fun cv w' eu T hz hk => by
                subst eu
                cases x with
                | xv c' ks ys =>
                  simp only [tyOf] at et
                  cases et
                  simp only [RepV] at r1
                  obtain ⟨a, oe, ev, ⟨x1, x2, x3, x4⟩, q1⟩ := r1
                  subst ev
                  refine ⟨a, R.cA d, oe, u, w', b, e1, x1, x3, x4, ?_, T, hz, hk, fin_b S g⟩
                  rcases q1 with ⟨dd, vs, e1, e2, _⟩ | q1
                  · exact .inr ⟨dd, _, e1, e2⟩
                  · exact .inl q1.1
                | obj n =>
                  simp only [tyOf] at et
                  split at et <;> cases et
                | _ => simp only [tyOf] at et; cases et
              cases c with
              | ty m =>
                simp only [isiP] at eb
                simp only [RepV] at r2
                obtain ⟨h1, h2⟩ := hx.typ d m b eb
                exact .inr (xr _ _ r2 h1 (fun z hz => hz) h2)
              | cls e =>
                simp only [isiP] at eb
                simp only [RepV] at r2
                obtain ⟨h1, h2⟩ := hx.cls d e b eb
                exact .inr (xr _ _ r2 h1 (fun z hz => hz) h2)
              | _ => simp only [isiP] at eb; cases eb
/-! ### methods of built-in types -/
section
variable {R : RC} {F : CallT} {W : WX} {X : Cx}
def MtSnd (R : RC) (o : Op2) (r : V → List V → Hp → VK → Prop) : Prop := Op2Snd R o (fun x y H Q => r x [y] H Q)
theorem te_LM {o : Op2} {r : V → List V → Hp → VK → Prop} {a b : D PV} {sg : L2.St} {H : Hp} {Q : VK} (hs : MtSnd R o r) (h : tE R F W (dLM o a b) sg H Q) : tBM R.K "list" r (tE R F W a) (tL R F W (dArgs [b])) sg H Q := by
  obtain ⟨rho, st, env, hE, hS, g⟩ := h
  refine ⟨rho, st, env, hE, hS, (Good.bnd g).imp fun v H1 ⟨rho1, st1, x, M1, S1, r1, g1⟩ => ?_⟩
  split at g1
  · rename_i xs ex
    obtain ⟨p, us, ep, hq, _⟩ := listOf_ok S1 r1 ex
    subst ep
    refine ⟨.inl ⟨rfl, us, hq⟩, rho1, st1, env, hE.mono M1, S1, ?_⟩
    show Good R (RepVs R) rho1 H1 ((b F env st1).bnd fun y s2 => .ok [y] s2) _ _
    cases eb : b F env st1 with
    | bad => rw [eb] at g1; exact g1
    | exc c ks xs s => rw [eb] at g1; exact g1
    | ok y s2 =>
      rw [eb] at g1
      refine fun rho2 H2 vs M2 S2 r2 => ?_
      obtain ⟨u, e2, r3⟩ := rep1 r2
      subst e2
      exact hs rho2 s2 H2 x y _ u _ Q S2 (r1.mono M2) r3 (Good.shift M2 g1)
  · exact g1.elim
theorem te_SM {o : Op2} {r : V → List V → Hp → VK → Prop} {a b : D PV} {sg : L2.St} {H : Hp} {Q : VK} (hs : MtSnd R o r) (h : tE R F W (dSM o a b) sg H Q) : tM1 r (tE R F W a) (tE R F W b) sg H Q := by
  obtain ⟨rho, st, env, hE, hS, g⟩ := h
  refine ⟨rho, st, env, hE, hS, (Good.bnd g).imp fun v H1 ⟨rho1, st1, x, M1, S1, r1, g1⟩ => ?_⟩
  cases x with
  | str z =>
    have r1' := r1
    simp only [RepV] at r1
    refine ⟨⟨z, r1⟩, rho1, st1, env, hE.mono M1, S1, (Good.bnd (rel := RepV R) g1).imp fun u H2 ⟨rho2, st2, y, M2, S2, r2, g2⟩ => ?_⟩
    exact hs rho2 st2 H2 _ y v u _ Q S2 (r1'.mono M2) r2 g2
  | _ => exact g1.elim
theorem snd_append : MtSnd R oAppend rAppend := by
  intro rho st H x y v u Wx Q S rx ry g
  cases x with
  | obj n =>
    simp only [oAppend] at g
    split at g
    · rename_i xs en
      split at g
      · rename_i hl
        obtain ⟨a, vs, ev, ea, h, rs⟩ := obj_list S rx en
        subst ev
        have MW : Mono rho H rho (upd H a (.lst (vs ++ [u]))) := Mono.write S ea
        refine ⟨a, vs, u, rfl, rfl, h, by rw [sizeLine_eq, ← rs.length]; exact hl, ?_⟩
        exact g rho _ .non MW (S.write ea ⟨a, vs ++ [u], ea, upd_same, (rs.append (RepVs.cons ry (by simp only [RepVs]))).mono MW⟩) (by simp only [RepV])
      · exact g.elim
    · exact g.elim
  | _ => exact g.elim
theorem ixOf_ok {rho : Rho} {H : Hp} {x : PV} {v : V} (rx : RepV R rho H x v) (fx : flatP x = true) : ∀ {ys : List PV} {us : List V} {i j : Nat}, RepVs R rho H ys us → ys.all flatP = true → ixOf x ys i = some j →
    ∃ k z, j = i + k ∧ us[k]? = some z ∧ eqV z v = true ∧ ∀ (m : Nat) (z' : V), m < k → us[m]? = some z' → eqV z' v = false
  | [], us, i, j, _, _, e => by simp only [ixOf] at e; cases e
  | y :: ys, us, i, j, r, f, e => by
    simp only [RepVs] at r
    obtain ⟨u, us', eu, h1, h2⟩ := r
    subst eu
    simp only [List.all_cons, Bool.and_eq_true] at f
    simp only [ixOf] at e
    split at e
    · rename_i hq
      cases e
      exact ⟨0, u, rfl, rfl, by rw [eqP_ok h1 rx f.1 fx]; exact hq, fun m z' hm => absurd hm (Nat.not_lt_zero _)⟩
    · rename_i hq
      obtain ⟨k, z, e1, e2, e3, e4⟩ := ixOf_ok rx fx h2 f.2 e
      refine ⟨k + 1, z, by omega, by simpa using e2, e3, fun m z' hm em => ?_⟩
      cases m with
      | zero =>
        simp at em
        subst em
        rw [eqP_ok h1 rx f.1 fx]
        simpa using hq
      | succ m => exact e4 m z' (by omega) (by simpa using em)
theorem snd_index : MtSnd R oIndex (rIndex R.K) := by
  intro rho st H x y v u Wx Q S rx ry g
  unfold oIndex at g
  split at g
  · rename_i xs ex
    split at g
    · rename_i hf
      split at g
      · rename_i i ei
        obtain ⟨f1, f2⟩ := Bool.and_eq_true_iff.mp hf
        obtain ⟨p, us, ep, hq, rs⟩ := listOf_ok S rx ex
        obtain ⟨k, z, e1, e2, e3, e4⟩ := ixOf_ok ry f1 rs f2 ei
        have e1 : i = k := by omega
        subst e1
        exact ⟨p, us, u, i, z, ep, rfl, hq, flat_ok ry f1, (any_ok ry f1 rs f2).1, e2, e3, e4, fin_i S g⟩
      · exact g.elim
    · exact g.elim
  · exact g.elim
theorem strs_rep {rho : Rho} {H : Hp} : ∀ zs : List Str, RepVs R rho H (zs.map PV.str) (zs.map V.str)
  | [] => by simp [RepVs]
  | z :: zs => RepVs.cons (by simp only [RepV]) (strs_rep zs)
theorem snd_split {mt : Bool} : MtSnd R (oSplit mt) (fun x xs H Q => ∃ a b, x = .str a ∧ xs = [.str b] ∧ (b.length == 0) = false ∧ a.length + 2 ≤ sizeLine ∧ rNewStrs (Txt.split a b) H Q) := by
  intro rho st H x y v u Wx Q S rx ry g
  unfold oSplit at g
  split at g
  · split at g
    · rename_i hz
      simp only [RepV] at rx ry
      subst rx; subst ry
      exact ⟨_, _, rfl, rfl, hz.1, by rw [sizeLine_eq]; exact hz.2, new_list S (strs_rep _) g⟩
    · exact g.elim
  · exact g.elim
theorem snd_find : MtSnd R oFind (fun x xs H Q => ∃ a b, x = .str a ∧ xs = [.str b] ∧ Q (.int (Txt.find a b)) H) := by
  intro rho st H x y v u Wx Q S rx ry g
  unfold oFind at g
  split at g
  · simp only [RepV] at rx ry
    subst rx; subst ry
    exact ⟨_, _, rfl, rfl, fin_i S g⟩
  · exact g.elim
theorem snd_join : MtSnd R oJoin (fun x xs H Q => ∃ a p, ∃ ys : List Str, x = .str a ∧ xs = [.ref p] ∧ (SqL R.K H p (ys.map V.str) ∨ SqT R.K H p (ys.map V.str)) ∧ (ys.map (·.length)).sum + ys.length * a.length ≤ 16777216 ∧ Q (.str (Txt.join a ys)) H) := by
  intro rho st H x y v u Wx Q S rx ry g
  cases x with
  | str a =>
    simp only [oJoin] at g
    split at g
    · rename_i ys e
      split at g
      · rename_i hz
        obtain ⟨zs, e2, e3⟩ := Option.bind_eq_some_iff.mp e
        obtain ⟨p, us, e4, h1, h2⟩ := seqOf_ok S ry e2
        simp only [RepV] at rx
        subst rx; subst e4
        rw [allStr_ok h2 e3] at h1
        exact ⟨a, p, ys, rfl, rfl, h1, hz, fin_s S g⟩
      · exact g.elim
    · exact g.elim
  | _ => exact g.elim
end
end OL
set_option maxRecDepth 100000
set_option maxHeartbeats 0
/-! ## l.count(x), flat items -/
namespace OL
open PySem PySem.Spec
open PyProof.Rows L2
def oCount (x y : PV) (st : Sto) : Res PV :=
  match listOf st x with
  | some xs => if flatP y && xs.all flatP then .ok (.int ((xs.countP fun z => eqP z y : Nat) : Int)) st else .bad
  | none => .bad
def rCnt (K : PySem.W.Frag) : V → List V → Hp → VK → Prop := fun x xs H Q => ∃ (a : Addr) (ys : List V) (y : V), x = V.ref a ∧ xs = [y] ∧ SqL K H a ys ∧ flatV y = true ∧ ys.all flatV = true ∧ Q (.int ((ys.countP fun z => eqV z y : Nat) : Int)) H
theorem eqU_many {y : V} : ∀ {us : List Value} {ys : List V}, Vals ys us → ys.all flatV = true → us.countP (eqU y) = ys.countP fun z => eqV z y
  | _, _, .nil, _ => rfl
  | _, _, .cons r h, f => by
    simp only [List.all_cons, Bool.and_eq_true] at f
    rw [List.countP_cons, List.countP_cons, eqU_many h f.2, eqU_of r f.1]
theorem mt_count {X : Cx} : MtR X "list.count" (rCnt X.K) := by
  intro pins s sg H x xs v us Q I rx rxs h
  obtain ⟨a, ys, y, rfl, rfl, hs, fy, fys, q⟩ := h
  cases rx
  cases rxs with
  | cons ry rt =>
    rename_i uy ut
    cases rt
    obtain ⟨its, rv, ⟨⟨cls, dd, data, sl⟩, n, ho, hc, hdn, hd⟩, hlen⟩ := I.list hs
    simp only at hc hd
    subst hc hd
    refine call_meets PySem.F.slot_list_count ⟨_, ho, rfl⟩ PySem.F.entry_list_count (PySem.F.args_list_count_2 _ _) (SeqAt.list_countAt a its.toArray n dd sl uy (eqU y)) ⟨ho, fun u' hu' => mem_eqAt ry fy rv fys u' (by simpa using hu'), ?_⟩
    exact ⟨.int ((ys.countP fun z => eqV z y : Nat) : Int), H, I.tok _, ⟨_, by rw [show its.toArray.toList = its from by simp, eqU_many rv fys]⟩, q⟩
theorem cnt_ok {R : RC} {rho : Rho} {H : Hp} {x : PV} {v : V} (rx : RepV R rho H x v) (fx : flatP x = true) : ∀ {ys : List PV} {us : List V}, RepVs R rho H ys us → ys.all flatP = true → us.countP (fun z => eqV z v) = ys.countP fun z => eqP z x
  | [], us, h, _ => by simp only [RepVs] at h; subst h; rfl
  | y :: ys, us, h, f => by
    simp only [RepVs] at h
    obtain ⟨u, r, e, h1, h2⟩ := h
    subst e
    simp only [List.all_cons, Bool.and_eq_true] at f
    rw [List.countP_cons, List.countP_cons, cnt_ok rx fx h2 f.2, eqP_ok h1 rx f.1 fx]
theorem snd_count {R : RC} : MtSnd R oCount (rCnt R.K) := by
  intro rho st H x y v u Wx Q S rx ry g
  unfold oCount at g
  split at g
  · rename_i xs ex
    split at g
    · rename_i hf
      obtain ⟨f1, f2⟩ := Bool.and_eq_true_iff.mp hf
      obtain ⟨p, us, ep, hq, rs⟩ := listOf_ok S rx ex
      refine ⟨p, us, u, ep, rfl, hq, flat_ok ry f1, (any_ok ry f1 rs f2).1, ?_⟩
      rw [cnt_ok ry f1 rs f2]
      exact fin_i S g
    · exact g.elim
  · exact g.elim
end OL
set_option maxRecDepth 100000
set_option maxHeartbeats 0
/-! ## how arguments come to parameters -/
namespace OL
open PySem PySem.Spec
open PyProof.Rows L2

def nodupB : List Str → Bool
  | [] => true
  | x :: r => !r.contains x && nodupB r
theorem nodupB_ok : ∀ {l : List Str}, nodupB l = true → l.Nodup
  | [], _ => List.nodup_nil
  | x :: r, h => by
    simp only [nodupB, Bool.and_eq_true, Bool.not_eq_true'] at h
    refine List.nodup_cons.mpr ⟨fun hm => ?_, nodupB_ok h.2⟩
    rw [List.contains_iff_mem.mpr hm] at h
    cases h.1
/-- plain parameters: names alone -/
def plainP (p : Arguments) (ps : List Str) : Bool := p.posonlyargs.isEmpty && p.kwonlyargs.isEmpty && p.vararg.isNone && p.kwarg.isNone && decide (p.args.map (·.arg) = ps)
inductive S3 where
  | u (i : Nat)
  | w (i : Nat)
  | d (i : Nat)
def S3.val {α : Type} (z : α) (us ws ds : List α) : S3 → α
  | .u i => us.getD i z
  | .w i => ws.getD i z
  | .d i => ds.getD i z
/-- who gives what: by position, by name, by default -/
def slotIx (ps ks : List Str) (n dn : Nat) : List (Str × S3) := ps.zip ((List.range n).map .u) ++ (ks.zip ((List.range ks.length).map .w) ++ (ps.drop (ps.length - dn)).zip ((List.range dn).map .d))
def allOk (ps ks : List Str) (n dn : Nat) : Bool := decide (n ≤ ps.length) && decide (dn ≤ ps.length) && nodupB ps && nodupB ks && (ks.all fun x => ps.contains x && !(ps.take n).contains x) &&
  ((ps.take (ps.length - dn)).all fun x => (ps.take n).contains x || ks.contains x) && (ps.all fun x => ((slotIx ps ks n dn).lookup x).isSome)
theorem zip_map {α : Type} {z : α} {f : Nat → S3} {us ws ds : List α} (ps : List Str) (vs : List α) (h : ∀ i, S3.val z us ws ds (f i) = vs.getD i z) : ps.zip vs = (ps.zip ((List.range vs.length).map f)).map fun p => (p.1, S3.val z us ws ds p.2) := by
  have e : vs = ((List.range vs.length).map f).map (S3.val z us ws ds) := by
    rw [List.map_map]
    apply List.ext_getElem
    · simp
    · intro i h1 h2
      simp only [List.getElem_map, List.getElem_range, Function.comp]
      rw [h i, List.getD_eq_getElem?_getD, List.getElem?_eq_getElem h1]
      rfl
  conv => lhs; rw [e]
  rw [List.zip_map_right]
  rfl
theorem lookup_map {α β : Type} {f : α → β} {x : Str} : ∀ {l : List (Str × α)}, (l.map fun p => (p.1, f p.2)).lookup x = (l.lookup x).map f
  | [] => rfl
  | (y, v) :: r => by
    simp only [List.map_cons, List.lookup_cons]
    cases x == y with
    | true => rfl
    | false => exact lookup_map
theorem lookup_app {α : Type} {x : Str} : ∀ {l m : List (Str × α)}, (l ++ m).lookup x = match l.lookup x with
    | some v => some v
    | none => m.lookup x
  | [], m => rfl
  | (y, v) :: r, m => by
    simp only [List.cons_append, List.lookup_cons]
    cases x == y with
    | true => rfl
    | false => exact lookup_app
theorem lookup_zip_none {α : Type} {x : Str} : ∀ {ps : List Str} {us : List α}, x ∉ ps.take us.length → (ps.zip us).lookup x = none
  | [], us, _ => rfl
  | p :: ps, [], _ => rfl
  | p :: ps, u :: us, h => by
    simp only [List.zip_cons_cons, List.lookup_cons, List.length_cons, List.take_succ_cons, List.mem_cons, not_or] at h ⊢
    have hb : (x == p) = false := beq_eq_false_iff_ne.mpr h.1
    rw [hb]
    exact lookup_zip_none h.2
theorem lookup_zip_some {α : Type} {x : Str} : ∀ {ps : List Str} {us : List α}, x ∈ ps.take us.length → ((ps.zip us).lookup x).isSome = true
  | [], us, h => by simp at h
  | p :: ps, [], h => by simp at h
  | p :: ps, u :: us, h => by
    simp only [List.zip_cons_cons, List.lookup_cons, List.length_cons, List.take_succ_cons, List.mem_cons] at h ⊢
    cases e : x == p with
    | true => rfl
    | false =>
      rcases h with h | h
      · subst h; simp at e
      · exact lookup_zip_some h
/-- the keywords, one after another -/
theorem kw_loop {β : Type} {normal : List Str} (f : Str × Value → List (Str × Value) × β → Sem (ForInStep (List (Str × Value) × β))) (hf : ∀ k v sl b, normal.contains k = true → (sl.lookup k).isSome = false → f (k, v) (sl, b) = pure (.yield (sl ++ [(k, v)], b))) :
    ∀ (kw : List (Str × Value)) (sl : List (Str × Value)) (b : β), (∀ k ∈ kw.map (·.1), normal.contains k = true ∧ sl.lookup k = none) → (kw.map (·.1)).Nodup → forIn kw (sl, b) f = pure (sl ++ kw, b)
  | [], sl, b, _, _ => by rw [List.forIn_nil, List.append_nil]
  | (k, v) :: r, sl, b, h, nd => by
    obtain ⟨h1, h2⟩ := h k (by simp)
    simp only [List.map_cons, List.nodup_cons] at nd
    rw [List.forIn_cons, hf k v sl b h1 (by rw [h2]; rfl)]
    simp only [pure_bind]
    rw [kw_loop f hf r (sl ++ [(k, v)]) b (fun x hx => ⟨(h x (by simp [hx])).1, ?_⟩) nd.2]
    · simp
    · rw [lookup_app, (h x (by simp [hx])).2]
      have : (x == k) = false := beq_eq_false_iff_ne.mpr fun e => nd.1 (by rw [← e]; exact hx)
      simp [List.lookup_cons, this]
/-- the defaults -/
theorem df_loop (f : Str × Value → List (Str × Value) → Sem (ForInStep (List (Str × Value)))) (hf : ∀ n d sl, f (n, d) sl = if (sl.lookup n).isNone = true then pure (.yield (sl ++ [(n, d)])) else pure (.yield sl)) :
    ∀ (l : List (Str × Value)) (sl : List (Str × Value)), ∃ sl', forIn l sl f = pure sl' ∧ ∀ x, sl'.lookup x = (sl ++ l).lookup x
  | [], sl => ⟨sl, by rw [List.forIn_nil], fun x => by rw [List.append_nil]⟩
  | (n, d) :: r, sl => by
    rw [List.forIn_cons, hf n d sl]
    by_cases hn : (sl.lookup n).isNone = true
    · obtain ⟨sl', e1, e2⟩ := df_loop f hf r (sl ++ [(n, d)])
      refine ⟨sl', by rw [if_pos hn]; simp only [pure_bind]; exact e1, fun x => ?_⟩
      rw [e2 x, List.append_assoc]
      rfl
    · obtain ⟨sl', e1, e2⟩ := df_loop f hf r sl
      refine ⟨sl', by rw [if_neg hn]; simp only [pure_bind]; exact e1, fun x => ?_⟩
      rw [e2 x, lookup_app, lookup_app]
      cases q : sl.lookup x with
      | some v => rfl
      | none =>
        simp only [List.lookup_cons]
        have : (x == n) = false := beq_eq_false_iff_ne.mpr fun e => hn (by rw [← e, q]; rfl)
        rw [this]
theorem filter_zip {sl : List (Str × Value)} : ∀ (ps : List Str), (∀ x ∈ ps, (sl.lookup x).isSome = true) → (ps.filterMap fun n => (sl.lookup n).map (n, ·)) = ps.zip (ps.map fun n => (sl.lookup n).getD .none)
  | [], _ => rfl
  | p :: ps, h => by
    have h1 := h p (by simp)
    obtain ⟨v, hv⟩ := Option.isSome_iff_exists.mp h1
    rw [List.filterMap_cons, hv]
    simp only [Option.map_some, List.map_cons, List.zip_cons_cons, hv, Option.getD_some]
    rw [filter_zip ps fun x hx => h x (by simp [hx])]
end OL
set_option maxRecDepth 100000
set_option maxHeartbeats 0
namespace OL
open PySem PySem.Spec
open PyProof.Rows L2
def zsOf {α : Type} (z : α) (ps ks : List Str) (n dn : Nat) (us ws ds : List α) : List α := ps.map fun x => match (slotIx ps ks n dn).lookup x with
  | some t => t.val z us ws ds
  | none => z
theorem slots_eq {ps ks : List Str} {us ws ds : List Value} (hw : ws.length = ks.length) (x : Str) :
    (ps.zip us ++ ks.zip ws ++ (ps.drop (ps.length - ds.length)).zip ds).lookup x = ((slotIx ps ks us.length ds.length).lookup x).map (S3.val Value.none us ws ds) := by
  rw [← lookup_map, slotIx, List.map_append, List.map_append, ← List.append_assoc]
  rw [zip_map (z := Value.none) (f := S3.u) (us := us) (ws := ws) (ds := ds) ps us (fun i => rfl), zip_map (z := Value.none) (f := S3.w) (us := us) (ws := ws) (ds := ds) ks ws (fun i => rfl), zip_map (z := Value.none) (f := S3.d) (us := us) (ws := ws) (ds := ds) (ps.drop (ps.length - ds.length)) ds (fun i => rfl), hw]
theorem bind_plain {x qual : Str} {params : Arguments} {body : List Stmt} {scope : Scope} {dV kV doc pm cdv ct : Value} {an : Option Addr} {ps ks : List Str} {us ws : List Value} {dn : Nat} (hp : plainP params ps = true) (ok : allOk ps ks us.length dn = true) (hw : ws.length = ks.length) :
    ∃ k, bindArgs (PySem.W.fnOf x qual params body scope dV kV doc pm an cdv ct) ⟨us, ks.zip ws⟩ = seqItems? dV >>= k ∧ ∀ o : Option (Array Value), (o.getD #[]).toList.length = dn → k o = pure (ps.zip (zsOf .none ps ks us.length dn us ws (o.getD #[]).toList)) := by
  unfold plainP at hp
  simp only [Bool.and_eq_true, decide_eq_true_eq] at hp
  obtain ⟨⟨⟨⟨p1, p2⟩, p3⟩, p4⟩, p5⟩ := hp
  obtain ⟨po, ar, va, ko, kd, kw, df⟩ := params
  simp only [List.isEmpty_iff, Option.isNone_iff_eq_none] at p1 p2 p3 p4 p5
  subst p1; subst p2; subst p3; subst p4
  unfold allOk at ok
  simp only [Bool.and_eq_true, decide_eq_true_eq, List.all_eq_true, Bool.or_eq_true, Bool.not_eq_true'] at ok
  obtain ⟨⟨⟨⟨⟨⟨o1, o2⟩, o3⟩, o4⟩, o5⟩, o6⟩, o7⟩ := ok
  have nk : (ks.zip ws).map (·.1) = ks := by
    rw [List.map_fst_zip]
    omega
  unfold bindArgs
  simp only [PySem.W.fnOf, List.map_nil, List.nil_append, List.append_nil, p5]
  rw [kw_loop (normal := ps)]
  rotate_left
  · intro k v sl b h1 h2
    simp only [h1, h2, Bool.true_or, if_true, Bool.false_eq_true, if_false]
  · intro k hk
    rw [nk] at hk
    obtain ⟨q1, q2⟩ := o5 k hk
    refine ⟨q1, lookup_zip_none fun hm => ?_⟩
    rw [List.contains_iff_mem.mpr hm] at q2
    cases q2
  · rw [nk]; exact nodupB_ok o4
  simp only [pure_bind]
  refine ⟨_, rfl, fun o ho => ?_⟩
  have hlen : ¬ (us.length > ps.length) := by omega
  have hdr : (o.getD #[]).toList.drop ((o.getD #[]).toList.length - ps.length) = (o.getD #[]).toList := by
    rw [ho, Nat.sub_eq_zero_of_le o2]; rfl
  have hmiss : ((ps.take (ps.length - (o.getD #[]).toList.length)).filter fun n => ((ps.zip us ++ ks.zip ws).lookup n).isNone) = [] := by
    rw [List.filter_eq_nil_iff]
    intro n hn
    rw [ho] at hn
    rw [lookup_app]
    rcases o6 n hn with q | q
    · obtain ⟨v, hv⟩ := Option.isSome_iff_exists.mp (lookup_zip_some (us := us) (List.contains_iff_mem.mp q))
      rw [hv]; simp
    · cases e : (ps.zip us).lookup n with
      | some v => simp
      | none =>
        have : n ∈ ks.take ws.length := by rw [hw, List.take_length]; exact List.contains_iff_mem.mp q
        obtain ⟨v, hv⟩ := Option.isSome_iff_exists.mp (lookup_zip_some (us := ws) this)
        simp [hv]
  simp only [hdr, hmiss, hlen, false_and, decide_false, Bool.false_and, Bool.false_eq_true, if_false, List.isEmpty_nil, Bool.not_true, pure_bind, List.forIn_nil]
  obtain ⟨sl', e1, e2⟩ := df_loop (fun x sl => if (List.lookup x.fst sl).isNone = true then pure (ForInStep.yield (sl ++ [(x.fst, x.snd)])) else pure (ForInStep.yield sl)) (fun _ _ _ => rfl) ((ps.drop (ps.length - (o.getD #[]).toList.length)).zip (o.getD #[]).toList) (ps.zip us ++ ks.zip ws)
  rw [e1]
  simp only [pure_bind]
  have key : ∀ x, sl'.lookup x = ((slotIx ps ks us.length dn).lookup x).map (S3.val Value.none us ws (o.getD #[]).toList) := fun x => by
    rw [e2 x, slots_eq hw, ho]
  rw [filter_zip ps fun x hx => by rw [key x, Option.isSome_map]; exact o7 x hx]
  congr 2
  unfold zsOf
  apply List.map_congr_left
  intro x hx
  rw [key x]
  cases (slotIx ps ks us.length dn).lookup x with
  | none => rfl
  | some t => rfl
/-- the values are those of the parameters' row -/
theorem zs_vals {ps ks : List Str} {n dn : Nat} {vs zs ds : List V} {us ws es : List Value} (h1 : Vals vs us) (h2 : Vals zs ws) (h3 : Vals ds es) : Vals (zsOf V.non ps ks n dn vs zs ds) (zsOf Value.none ps ks n dn us ws es) := by
  have gd : ∀ {a : List V} {b : List Value}, Vals a b → ∀ i, RelV (a.getD i .non) (b.getD i .none) := fun {a b} h => by
    induction h with
    | nil => exact fun i => rfl
    | cons r _ ih => exact fun i => match i with
      | 0 => r
      | i + 1 => ih i
  have sv : ∀ t : S3, RelV (t.val V.non vs zs ds) (t.val Value.none us ws es) := fun t => by
    cases t with
    | u i => exact gd h1 i
    | w i => exact gd h2 i
    | d i => exact gd h3 i
  have key : ∀ (l : List (Str × S3)) (qs : List Str), Vals (qs.map fun x => match l.lookup x with
      | some t => t.val V.non vs zs ds
      | none => V.non) (qs.map fun x => match l.lookup x with
      | some t => t.val Value.none us ws es
      | none => Value.none) := fun l qs => by
    induction qs with
    | nil => exact .nil
    | cons q qs ih =>
      refine .cons ?_ ih
      show RelV (match l.lookup q with
        | some t => t.val V.non vs zs ds
        | none => V.non) (match l.lookup q with
        | some t => t.val Value.none us ws es
        | none => Value.none)
      cases l.lookup q with
      | none => exact rfl
      | some t => exact sv t
  exact key _ _
/-- all by position -/
theorem zip_self {α : Type} {z : α} : ∀ {ps : List Str} {us : List α}, ps.Nodup → us.length = ps.length → (ps.map fun x => ((ps.zip us).lookup x).getD z) = us
  | [], [], _, _ => rfl
  | [], _ :: _, _, h => by cases h
  | p :: ps, [], _, h => by cases h
  | p :: ps, u :: us, nd, h => by
    rw [List.nodup_cons] at nd
    simp only [List.map_cons, List.zip_cons_cons, List.lookup_cons, beq_self_eq_true, Option.getD_some]
    congr 1
    have ih := zip_self (z := z) (us := us) nd.2 (by simpa using h)
    refine Eq.trans ?_ ih
    apply List.map_congr_left
    intro x hx
    have hb : (x == p) = false := beq_eq_false_iff_ne.mpr fun e => nd.1 (by rw [← e]; exact hx)
    rw [hb]
theorem zs_pos {ps : List Str} {us ds : List Value} (nd : ps.Nodup) (hl : us.length = ps.length) : zsOf Value.none ps [] us.length ds.length us [] ds = us := by
  have h := zip_self (z := Value.none) nd hl
  conv => rhs; rw [← h]
  unfold zsOf
  apply List.map_congr_left
  intro x hx
  have e := slots_eq (ps := ps) (ks := []) (us := us) (ws := []) (ds := ds) rfl x
  have h1 : ((ps.zip us).lookup x).isSome = true := lookup_zip_some (by rw [hl, List.take_length]; exact hx)
  obtain ⟨v, hv⟩ := Option.isSome_iff_exists.mp h1
  rw [List.append_assoc, lookup_app, hv] at e
  rw [hv]
  cases q : (slotIx ps [] us.length ds.length).lookup x with
  | none => rw [q] at e; cases e
  | some t => rw [q] at e; exact (Option.some.inj e).symm
/-! ### a def's calls by shape -/
def flatOf : PV → V
  | .str s => .str s
  | .int s => .int s
  | .bl s => .bl s
  | _ => .non
def selOf (ps ks : List Str) (n : Nat) (dfl : List PV) : List Sel := ps.map fun x => match (slotIx ps ks n dfl.length).lookup x with
  | some (.u i) => .a i
  | some (.w i) => .a (n + i)
  | some (.d i) => .d (dfl.getD i .non)
  | none => .d .non
def flatB : PV → Bool
  | .str _ => true
  | .int _ => true
  | .bl _ => true
  | .non => true
  | _ => false
theorem sel_flat {ps ks : List Str} {n : Nat} {dfl : List PV} (h : dfl.all flatB = true) : (selOf ps ks n dfl).all flatSel = true := by
  have key : ∀ i, flatSel (.d (dfl.getD i .non)) = true := fun i => by
    rw [List.getD_eq_getElem?_getD]
    cases e : dfl[i]? with
    | none => rfl
    | some v =>
      have := List.all_eq_true.mp h v (List.mem_of_getElem? e)
      cases v <;> first | rfl | cases this
  unfold selOf
  rw [List.all_map]
  apply List.all_eq_true.mpr
  intro x _
  simp only [Function.comp]
  split <;> first | rfl | exact key _
theorem sel_zs {ps ks : List Str} {n : Nat} {dfl : List PV} {vs zs : List V} (hl : vs.length = n) : (selOf ps ks n dfl).map (selV (vs ++ zs)) = (ps.map fun x => match (slotIx ps ks n dfl.length).lookup x with
    | some t => t.val V.non (vs ++ zs) zs (dfl.map flatOf)
    | none => V.non) := by
  unfold selOf
  rw [List.map_map]
  apply List.map_congr_left
  intro x _
  simp only [Function.comp]
  cases (slotIx ps ks n dfl.length).lookup x with
  | none => rfl
  | some t =>
    cases t with
    | u i => rfl
    | w i =>
      show (vs ++ zs).getD (n + i) .non = zs.getD i .non
      rw [List.getD_eq_getElem?_getD, List.getD_eq_getElem?_getD, List.getElem?_append_right (by omega), hl, Nat.add_sub_cancel_left]
    | d i =>
      show selV _ (.d (dfl.getD i .non)) = (dfl.map flatOf).getD i .non
      rw [List.getD_eq_getElem?_getD, List.getD_eq_getElem?_getD, List.getElem?_map]
      cases e : dfl[i]? with
      | none => rfl
      | some v => cases v <;> rfl
theorem lookup_u {ps ks : List Str} {n dn : Nat} {x : Str} {i : Nat} (h : (slotIx ps ks n dn).lookup x = some (.u i)) : i < n := by
  have hm := PySem.mem_of_lookup h
  unfold slotIx at hm
  rcases List.mem_append.mp hm with q | q
  · have := (List.of_mem_zip q).2
    obtain ⟨j, h1, h2⟩ := List.mem_map.mp this
    cases h2
    exact List.mem_range.mp h1
  · rcases List.mem_append.mp q with q | q
    · obtain ⟨j, h1, h2⟩ := List.mem_map.mp (List.of_mem_zip q).2
      cases h2
    · obtain ⟨j, h1, h2⟩ := List.mem_map.mp (List.of_mem_zip q).2
      cases h2
theorem shape_ok {K : PySem.W.Frag} {x qual : Str} {params : Arguments} {body : List Stmt} {scope : Scope} {kws : List (Str × V)} {f : Addr} {fd : FuncData} {ps ks : List Str} {n : Nat} {dfl : List PV} (F : FunD K x qual params body scope (dfl.map flatOf) kws f fd) (hp : plainP params ps = true)
    (ok : allOk ps ks n dfl.length = true) : ShapeOk K fd ps n ks (selOf ps ks n dfl) := by
  intro s us ws vs KX hu hw rv
  obtain ⟨oc, od, dV, kV, doc, pm, an, cdv, ct, osl, rfl, lk, hcd, hD, _⟩ := F.ex
  obtain ⟨v1, v2, rfl, r1, r2⟩ : ∃ v1 v2, vs = v1 ++ v2 ∧ Vals v1 us ∧ Vals v2 ws := by
    have : ∀ {us ws : List Value} {vs : List V}, Vals vs (us ++ ws) → ∃ v1 v2, vs = v1 ++ v2 ∧ Vals v1 us ∧ Vals v2 ws := by
      intro us
      induction us with
      | nil => intro ws vs h; exact ⟨[], vs, rfl, .nil, h⟩
      | cons u us ih =>
        intro ws vs h
        cases h with
        | cons a b =>
          obtain ⟨p, q, e, h1, h2⟩ := ih b
          exact ⟨_ :: p, q, by rw [e]; rfl, .cons a h1, h2⟩
    exact this rv
  have l1 := r1.length
  subst hu
  obtain ⟨k, e1, e2⟩ := bind_plain (x := x) (qual := qual) (body := body) (scope := scope) (dV := dV) (kV := kV) (doc := doc) (pm := pm) (an := an) (cdv := cdv) (ct := ct) (ws := ws) hp ok hw
  have sel : (selOf ps ks us.length dfl).map (selV (v1 ++ v2)) = zsOf V.non ps ks us.length dfl.length v1 v2 (dfl.map flatOf) := by
    rw [sel_zs l1]
    unfold zsOf
    apply List.map_congr_left
    intro x _
    cases q : (slotIx ps ks us.length dfl.length).lookup x with
    | none => rfl
    | some t =>
      cases t with
      | u i =>
        have := lookup_u q
        show (v1 ++ v2).getD i .non = v1.getD i .non
        rw [List.getD_eq_getElem?_getD, List.getD_eq_getElem?_getD, List.getElem?_append_left (by omega)]
      | w i => rfl
      | d i => rfl
  rcases hD with ⟨ed, rfl⟩ | ⟨_, T, o, its, m, rfl, lT, oT, rT⟩
  · have e0 : dfl = [] := List.map_eq_nil_iff.mp ed
    subst e0
    refine ⟨zsOf .none ps ks us.length 0 us ws [], ?_, by rw [sel]; exact zs_vals r1 r2 .nil⟩
    refine .of_eq ?_
    rw [e1]
    have := e2 none rfl
    exact this
  · have l3 : its.length = dfl.length := by rw [← rT.length]; simp
    refine ⟨zsOf .none ps ks us.length dfl.length us ws its, ?_, by rw [sel]; exact zs_vals r1 r2 rT⟩
    refine BindsTo.of_looks fun M => ?_
    rw [e1]
    refine looks_items KX lT oT (.of_pure ?_)
    exact e2 (some its.toArray) (by simpa using l3)
theorem pos_ok {K : PySem.W.Frag} {x qual : Str} {params : Arguments} {body : List Stmt} {scope : Scope} {dvs : List V} {kws : List (Str × V)} {f : Addr} {fd : FuncData} {ps : List Str} (F : FunD K x qual params body scope dvs kws f fd) (hp : plainP params ps = true)
    (ok : allOk ps [] ps.length dvs.length = true) (nd : ps.Nodup) (s : Shared) (us : List Value) (KX : K.In s.heap) (hl : us.length = ps.length) : BindsTo s fd ⟨us, []⟩ (ps.zip us) := by
  obtain ⟨oc, od, dV, kV, doc, pm, an, cdv, ct, osl, rfl, lk, hcd, hD, _⟩ := F.ex
  rw [← hl] at ok
  obtain ⟨k, e1, e2⟩ := bind_plain (x := x) (qual := qual) (body := body) (scope := scope) (dV := dV) (kV := kV) (doc := doc) (pm := pm) (an := an) (cdv := cdv) (ct := ct) (ws := []) hp ok rfl
  rcases hD with ⟨ed, rfl⟩ | ⟨_, T, o, its, m, rfl, lT, oT, rT⟩
  · subst ed
    refine .of_eq ?_
    have h0 : k none = pure (ps.zip (zsOf Value.none ps [] us.length ([] : List Value).length us [] [])) := e2 none rfl
    rw [zs_pos (ds := []) nd hl] at h0
    exact e1.trans h0
  · have l3 := rT.length
    refine BindsTo.of_looks fun M => ?_
    have e1 : bindArgs (PySem.W.fnOf x qual params body scope (.ref T) kV doc pm an cdv ct) ⟨us, []⟩ = seqItems? (.ref T) >>= k := e1
    rw [e1]
    refine looks_items KX lT oT (.of_pure ?_)
    have := e2 (some its.toArray) (by simpa using l3.symm)
    rw [l3] at this
    have z := zs_pos (ds := its) nd hl
    simp only [Option.getD_some] at this
    rw [z] at this
    exact this
end OL
set_option maxRecDepth 100000
set_option maxHeartbeats 0
/-! ## calls with keywords and defaults -/
namespace OL
open PySem PySem.Spec
open PyProof.Rows L2

def shiftSel : Sel → Sel
  | .a i => .a (i - 1)
  | .d v => .d v
def behind : Sel → Bool
  | .a i => decide (0 < i)
  | .d _ => true
/-- the parameters behind self -/
def selNew (ps ks : List Str) (n : Nat) (dfl : List PV) : Option (List Sel) := match selOf ps ks (n + 1) dfl with
  | .a 0 :: r => if r.all behind then some (r.map shiftSel) else none
  | _ => none
section
variable {R : RC} {F : CallT} {W : WX} {sg : L2.St} {H : Hp}
theorem bnd_assoc {α β γ : Type} {m : Res α} {f : α → Sto → Res β} {k : β → Sto → Res γ} : (m.bnd f).bnd k = m.bnd fun a s => (f a s).bnd k := by
  cases m <;> rfl
theorem dArgs_app {b : List (D PV)} {e : LEnv} : ∀ {a : List (D PV)} {st : Sto}, dArgs (a ++ b) F e st = (dArgs a F e st).bnd fun xs s => (dArgs b F e s).bnd fun ys s2 => .ok (xs ++ ys) s2
  | [], st => by
    show dArgs b F e st = (dArgs b F e st).bnd fun ys s2 => .ok ys s2
    cases dArgs b F e st <;> rfl
  | a :: as, st => by
    show ((a F e st).bnd fun x s1 => (dArgs (as ++ b) F e s1).bnd fun xs s2 => .ok (x :: xs) s2) = ((a F e st).bnd fun x s1 => (dArgs as F e s1).bnd fun xs s2 => .ok (x :: xs) s2).bnd _
    rw [bnd_assoc]
    congr 1
    funext x s1
    rw [dArgs_app, bnd_assoc, bnd_assoc]
    congr 1
    funext xs s2
    rw [bnd_assoc]
    rfl
theorem te_argsApp {a b : List (D PV)} (Q : List V → Hp → Prop) (h : tL R F W (dArgs (a ++ b)) sg H Q) : tL R F W (dArgs a) sg H (fun vs H1 => tL R F W (dArgs b) sg H1 fun zs H2 => Q (vs ++ zs) H2) := by
  obtain ⟨rho, st, env, hE, hS, g⟩ := h
  rw [dArgs_app] at g
  exact ⟨rho, st, env, hE, hS, (Good.bnd g).imp fun vs H1 ⟨rho1, st1, xs, M1, S1, r1, g1⟩ => ⟨rho1, st1, env, hE.mono M1, S1, (Good.bnd g1).imp fun zs H2 ⟨rho2, st2, ys, M2, S2, r2, g2⟩ => g2 rho2 H2 (vs ++ zs) (Mono.refl _ _) S2 ((r1.mono M2).append r2)⟩⟩
end
/-! ### the values of the keywords -/
def kwOk (kws : List Keyword) : Bool := kws.all fun k => k.arg.isSome
def kwNames (kws : List Keyword) : List Str := kws.filterMap (·.arg)
theorem kw_all {env : Env} {pos : Pos} : ∀ {kws : List Keyword}, kwOk kws = true → (backToKw pos (keywordEach kws env)).all (·.1.isSome) = true ∧ (backToKw pos (keywordEach kws env)).any (·.1.isNone) = false ∧ (backToKw pos (keywordEach kws env)).filterMap (·.1) = kwNames kws
  | [], _ => ⟨rfl, rfl, rfl⟩
  | ⟨none, v, p⟩ :: r, h => by
    simp [kwOk] at h
  | ⟨some x, v, p⟩ :: r, h => by
    have h2 : kwOk r = true := by
      unfold kwOk at h ⊢
      simp only [List.all_cons, Bool.and_eq_true] at h
      exact h.2
    obtain ⟨h3, h4, h5⟩ := kw_all (env := env) (pos := pos) h2
    refine ⟨?_, ?_, ?_⟩
    · show (true && (backToKw pos (keywordEach r env)).all (·.1.isSome)) = true
      rw [h3]; rfl
    · show (false || (backToKw pos (keywordEach r env)).any (·.1.isNone)) = false
      rw [h4]; rfl
    · show x :: (backToKw pos (keywordEach r env)).filterMap (·.1) = x :: kwNames r
      rw [h5]
theorem kwNames_len : ∀ {kws : List Keyword}, kwOk kws = true → (kwNames kws).length = kws.length
  | [], _ => rfl
  | ⟨none, v, p⟩ :: r, h => by simp [kwOk] at h
  | ⟨some x, v, p⟩ :: r, h => by
    have h2 : kwOk r = true := by
      unfold kwOk at h ⊢
      simp only [List.all_cons, Bool.and_eq_true] at h
      exact h.2
    show (kwNames r).length + 1 = r.length + 1
    rw [kwNames_len h2]
inductive AllK {β : Type} (P : Expr → β → Prop) : List Keyword → List β → Prop
  | nil : AllK P [] []
  | cons {nm e p ks b bs} : P e b → AllK P ks bs → AllK P (⟨nm, e, p⟩ :: ks) (b :: bs)
section
variable {R : RC} {F : CallT} {W : WX} {X : Cx}
theorem pk_of {kws : List Keyword} {ms : List (D PV)} (h : AllK (fun e m => PE X e (tE R F W m)) kws ms) : PK X kws (tL R F W (dArgs ms)) ∧ kws.length = ms.length := by
  induction h with
  | nil => exact ⟨PK.weak pk_nil fun sg H Q q => te_argsNil Q q, rfl⟩
  | cons h1 h2 ih => exact ⟨PK.weak (pk_cons h1 ih.1) fun sg H Q q => te_argsCons Q q, by simp [ih.2]⟩
end
section
variable {R : RC} {b : Tb} {mN : Nat → Str} {fD : Nat → FuncData} {T : List FnI} {W : WX} {X : Cx} {k : Nat} {md : Md}
theorem vals_app {vs zs : List V} {us ws : List Value} (h : Vals vs us) (h2 : Vals zs ws) : Vals (vs ++ zs) (us ++ ws) := h.append h2
theorem args_len {as : List (D PV)} {F : CallT} {e : LEnv} : ∀ {st st' : Sto} {xs : List PV}, dArgs as F e st = .ok xs st' → xs.length = as.length := by
  induction as with
  | nil => intro st st' xs h; cases h; rfl
  | cons a r ih =>
    intro st st' xs h
    have h : ((a F e st).bnd fun x s1 => (dArgs r F e s1).bnd fun ys s2 => .ok (x :: ys) s2) = .ok xs st' := h
    cases ea : a F e st with
    | bad => rw [ea] at h; cases h
    | exc _ _ _ _ => rw [ea] at h; cases h
    | ok x s1 =>
      rw [ea] at h
      simp only [Res.bnd] at h
      cases eb : dArgs r F e s1 with
      | bad => rw [eb] at h; cases h
      | exc _ _ _ _ => rw [eb] at h; cases h
      | ok ys s2 =>
        rw [eb] at h
        cases h
        simp [ih eb]
/-- the arguments as they come: by position, by name -/
theorem tl_kw {as bs : List (D PV)} {F : CallT} {sg : L2.St} {H : Hp} {Q : VK} {f : List PV → Sto → Res PV} (h : ∃ rho st env, EnvRep R rho H env sg ∧ StRep R rho st H ∧ Good R (RepV R) rho H ((dArgs (as ++ bs) F env st).bnd f) (fun cls d H' => W cls d sg H') Q) :
    tL R F W (dArgs as) sg H (fun vs H1 => vs.length = as.length ∧ tL R F W (dArgs bs) sg H1 fun zs H2 => zs.length = bs.length ∧ ∃ rho st xs, StRep R rho st H2 ∧ RepVs R rho H2 xs (vs ++ zs) ∧ Good R (RepV R) rho H2 (f xs st) (fun cls d H' => W cls d sg H') Q) := by
  obtain ⟨rho, st, env, hE, hS, g⟩ := h
  rw [dArgs_app, bnd_assoc] at g
  refine ⟨rho, st, env, hE, hS, ?_⟩
  cases ea : dArgs as F env st with
  | bad => rw [ea] at g; exact g
  | exc _ _ _ _ => rw [ea] at g; exact g
  | ok xs s1 =>
    rw [ea] at g
    simp only [Res.bnd] at g
    refine fun rho1 H1 vs M1 S1 r1 => ⟨by rw [← r1.length, args_len ea], rho1, s1, env, hE.mono M1, S1, ?_⟩
    have g := Good.shift M1 g
    cases eb : dArgs bs F env s1 with
    | bad => rw [eb] at g; exact g
    | exc _ _ _ _ => rw [eb] at g; exact g
    | ok ys s2 =>
      rw [eb] at g
      exact fun rho2 H2 zs M2 S2 r2 => ⟨by rw [← r2.length, args_len eb], rho2, s2, xs ++ ys, S2, (r1.mono M2).append r2, Good.shift M2 g⟩
/-- f(e, .., k = v, ..) -/
theorem pe_callKG {j : Nat} {x : Str} {p pos : Pos} {es : List Expr} {kws : List Keyword} {as bs : List (D PV)} {fi : FnI} {sel : List Sel} (fs : Fns md R fD T X.prog X.w X.K X.mg X.base k) (hr : RoomG md.isHot (6 * k + hb md) X.A) (tk : Takesm md.nc X W)
    (hg : Gl X x) (hm : X.mg x = some (.ref (R.fA j))) (hk : PySem.W.keepIn X.K (.ref (R.fA j)) = true) (hdb : (x == ("__debug__" : Str)) = false) (hj : T[j]? = some fi) (hsh : ShapeOk X.K (fD j) fi.ps as.length (kwNames kws) sel) (hfl : sel.all flatSel = true) (hsl : sel.length = fi.ps.length)
    (ha : PA X es (tL R (callK T k) W (dArgs as))) (hb : PK X kws (tL R (callK T k) W (dArgs bs))) (hkw : kwOk kws = true) (hbl : kws.length = bs.length) (hel : es.length = as.length)
    (hst : ∀ e r, es = e :: r → starEach es X.env = (false, eval e X.env) :: starEach r X.env) (hpl : (backTo pos (starEach es X.env)).any (·.1) = false) :
    PE X (.Call (.Name x p) es kws pos) (tE R (callK T k) W (dCallK j (as ++ bs) sel)) := by
  refine ⟨fun pins s sg H Q I h => ?_⟩
  refine wpAny_Call_Name_kw (ld_glob I hg hm ?_ hdb)
  have h2 := tl_kw h
  obtain ⟨k1, k2, k3⟩ := kw_all (env := X.env) (pos := pos) hkw
  have fin : ∀ {us ws : List Value} {vs zs : List V} {s2 : Shared} {H2 : Hp}, Inv X pins sg H2 s2 → Vals vs us → Vals zs ws → vs.length = as.length → zs.length = bs.length →
      (∃ rho st xs, StRep R rho st H2 ∧ RepVs R rho H2 xs (vs ++ zs) ∧ Good R (RepV R) rho H2 (match pick xs sel with
        | some ys => callK T k j ys st
        | none => .bad) (fun cls d H' => W cls d sg H') Q) → wpAny (model X.prog X.w) X.A (call (.ref (R.fA j)) us ((kwNames kws).zip ws)) (EP X pins sg Q) X.xe s2 := by
    intro us ws vs zs s2 H2 I2 r1 r2 l1 l2 ⟨rho, st, xs, S, rx, g⟩
    split at g
    · rename_i ys ep
      obtain ⟨zv, hbind, hv⟩ := hsh s2 us ws (vs ++ zs) I2.kIn (by rw [← r1.length, l1]) (by rw [← r2.length, l2, kwNames_len hkw, hbl]) (r1.append r2)
      have ry := pick_ok rx hfl ep
      exact run_g (fs j fi hj) hr tk hbind I2 hv ⟨by rw [List.length_map, hsl], rho, st, ys, S, ry, g⟩
    · exact g.elim
  cases es with
  | nil =>
    obtain rfl : as = [] := List.length_eq_zero_iff.mp hel.symm
    have h3 := te_argsNil _ h2
    obtain ⟨_, q⟩ : ([] : List V).length = 0 ∧ _ := h3
    refine PySem.W.callWith_KW0 (h₀ := X.base) I.ok.mod.kin hk k1 ?_ (by rw [k2]; rfl)
    refine thn (hb.run pos pins s sg H _ I q) fun ws s2 ⟨zs, H2, I2, r2, l2, q2⟩ => ⟨I2.kIn, ?_⟩
    rw [k3]
    exact fin (us := []) (vs := []) I2 .nil r2 rfl l2 q2
  | cons e r =>
    refine PySem.W.callWith_KW (h₀ := X.base) I.ok.mod.kin hk k1 (thn (ha.run pos pins s sg H _ I h2) fun us s1 ⟨vs, H1, I1, r1, l1, q⟩ => ?_) (by rw [hpl, k2]; rfl) (hst e r rfl)
    refine thn (hb.run pos pins s1 sg H1 _ I1 q) fun ws s2 ⟨zs, H2, I2, r2, l2, q2⟩ => ⟨I2.kIn, ?_⟩
    rw [k3]
    exact fin I2 r1 r2 l1 l2 q2
/-- C(e, .., k = v, ..): self comes first -/
theorem new_bind {ps ks : List Str} {n : Nat} {dfl : List PV} {sel : List Sel} {K : PySem.W.Frag} {fd : FuncData} (hsh : ShapeOk K fd ps (n + 1) ks (selOf ps ks (n + 1) dfl)) (hs : selNew ps ks n dfl = some sel) (s : Shared) (a : Addr) (us ws : List Value) (vs zs : List V) (KX : K.In s.heap) (h1 : Vals vs us) (h2 : Vals zs ws) (l1 : us.length = n) (l2 : ws.length = ks.length) :
    ∃ zv, BindsTo s fd ⟨.ref a :: us, ks.zip ws⟩ (ps.zip (.ref a :: zv)) ∧ Vals (sel.map (selV (vs ++ zs))) zv := by
  obtain ⟨zv, hb, hv⟩ := hsh s (.ref a :: us) ws (.ref a :: (vs ++ zs)) KX (by simp [l1]) l2 (.cons rfl (h1.append h2))
  unfold selNew at hs
  split at hs
  · rename_i r er
    split at hs
    · rename_i hr
      cases hs
      rw [er] at hv
      simp only [List.map_cons] at hv
      cases hv with
      | cons q qs =>
        rename_i u zv
        have eu : Value.ref a = u := q.symm
        subst eu
        refine ⟨zv, hb, ?_⟩
        have e : (r.map shiftSel).map (selV (vs ++ zs)) = r.map (selV (V.ref a :: (vs ++ zs))) := by
          rw [List.map_map]
          apply List.map_congr_left
          intro t ht
          have hb := List.all_eq_true.mp hr t ht
          cases t with
          | a i =>
            simp only [behind, decide_eq_true_eq] at hb
            obtain ⟨m, rfl⟩ : ∃ m, i = m + 1 := ⟨i - 1, by omega⟩
            rfl
          | d v => cases v <;> rfl
        rw [e]
        exact qs
    · cases hs
  · cases hs
theorem pe_newKG {c j : Nat} {mt : Bool} {x : Str} {p pos : Pos} {es : List Expr} {kws : List Keyword} {as bs : List (D PV)} {fi : FnI} {dfl : List PV} {sel : List Sel} (lk : Lnk R b mN fD T X.K) (fs : Fns md R fD T X.prog X.w X.K X.mg X.base k) (hr : RoomG md.isHot (6 * k + hb md + 1) X.A) (tk : Takesm md.nc X W) (M : Mk X.K (R.cA c) (R.fA j))
    (hg : Gl X x) (hm : X.mg x = some (.ref (R.cA c))) (hdb : (x == ("__debug__" : Str)) = false) (hj : T[j]? = some fi) (hsh : ShapeOk X.K (fD j) fi.ps (as.length + 1) (kwNames kws) (selOf fi.ps (kwNames kws) (as.length + 1) dfl)) (hfl : dfl.all flatB = true) (hse : selNew fi.ps (kwNames kws) as.length dfl = some sel)
    (ha : PA X es (tL R (callK T k) W (dArgs as))) (hb : PK X kws (tL R (callK T k) W (dArgs bs))) (hkw : kwOk kws = true) (hbl : kws.length = bs.length) (hel : es.length = as.length)
    (hst : ∀ e r, es = e :: r → starEach es X.env = (false, eval e X.env) :: starEach r X.env) (hpl : (backTo pos (starEach es X.env)).any (·.1) = false) :
    PE X (.Call (.Name x p) es kws pos) (tE R (callK T k) W (dNewK mt c j (as ++ bs) sel)) := by
  refine ⟨fun pins s sg H Q I h => ?_⟩
  refine wpAny_Call_Name_kw (ld_glob I hg hm ?_ hdb)
  have h2 := tl_kw h
  obtain ⟨k1, k2, k3⟩ := kw_all (env := X.env) (pos := pos) hkw
  have sflat : sel.all flatSel = true := by
    have hf := sel_flat (ps := fi.ps) (ks := kwNames kws) (n := as.length + 1) hfl
    unfold selNew at hse
    split at hse
    · rename_i r er
      split at hse
      · cases hse
        rw [er] at hf
        simp only [List.all_cons, Bool.and_eq_true] at hf
        rw [List.all_map]
        apply List.all_eq_true.mpr
        intro t ht
        have := List.all_eq_true.mp hf.2 t ht
        cases t with
        | a i => rfl
        | d v => exact this
      · cases hse
    · cases hse
  have slen : sel.length + 1 = fi.ps.length := by
    have e0 : (selOf fi.ps (kwNames kws) (as.length + 1) dfl).length = fi.ps.length := by unfold selOf; simp
    unfold selNew at hse
    split at hse
    · rename_i r er
      split at hse
      · cases hse
        rw [er] at e0
        simpa using e0
      · cases hse
    · cases hse
  have fin : ∀ {us ws : List Value} {vs zs : List V} {s2 : Shared} {H2 : Hp}, Inv X pins sg H2 s2 → Vals vs us → Vals zs ws → vs.length = as.length → zs.length = bs.length →
      (∃ rho st xs, StRep R rho st H2 ∧ RepVs R rho H2 xs (vs ++ zs) ∧ Good R (RepV R) rho H2 (match pick xs sel with
        | some ys => mkIns mt c j (callK T k) ys st
        | none => .bad) (fun cls d H' => W cls d sg H') Q) → wpAny (model X.prog X.w) X.A (call (.ref (R.cA c)) us ((kwNames kws).zip ws)) (EP X pins sg Q) X.xe s2 := by
    intro us ws vs zs s2 H2 I2 r1 r2 l1 l2 ⟨rho, st, xs, S, rx, g⟩
    split at g
    · rename_i ys ep
      have ry := pick_ok rx sflat ep
      have ly := ry.length
      rw [List.length_map] at ly
      exact run_makeG (vs := sel.map (selV (vs ++ zs))) lk fs hr tk M I2 hj (fun s' a hk => new_bind hsh hse s' a us ws vs zs hk r1 r2 (by rw [← r1.length, l1]) (by rw [← r2.length, l2, kwNames_len hkw, hbl])) (by omega) S ry g
    · exact g.elim
  cases es with
  | nil =>
    obtain rfl : as = [] := List.length_eq_zero_iff.mp hel.symm
    have h3 := te_argsNil _ h2
    obtain ⟨_, q⟩ : ([] : List V).length = 0 ∧ _ := h3
    refine PySem.W.callWith_KW0 (h₀ := X.base) I.ok.mod.kin M.kp k1 ?_ (by rw [k2]; rfl)
    refine thn (hb.run pos pins s sg H _ I q) fun ws s2 ⟨zs, H2, I2, r2, l2, q2⟩ => ⟨I2.kIn, ?_⟩
    rw [k3]
    exact fin (us := []) (vs := []) I2 .nil r2 rfl l2 q2
  | cons e r =>
    refine PySem.W.callWith_KW (h₀ := X.base) I.ok.mod.kin M.kp k1 (thn (ha.run pos pins s sg H _ I h2) fun us s1 ⟨vs, H1, I1, r1, l1, q⟩ => ?_) (by rw [hpl, k2]; rfl) (hst e r rfl)
    refine thn (hb.run pos pins s1 sg H1 _ I1 q) fun ws s2 ⟨zs, H2, I2, r2, l2, q2⟩ => ⟨I2.kIn, ?_⟩
    rw [k3]
    exact fin I2 r1 r2 l1 l2 q2
end
end OL
set_option maxRecDepth 100000
set_option maxHeartbeats 0
/-! ## dicts -/
namespace OL
open PySem PySem.Spec
open PyProof.Rows L2
section
variable {R : RC} {rho : Rho} {H : Hp} {κ : Type} [DecidableEq κ]
theorem valP_ok {k : κ} : ∀ {ks : List κ} {xs : List PV} {vs : List V}, RepVs R rho H xs vs → ks.length = xs.length →
    (∀ x, valP k ks xs = some x → ∃ v, valV (ks.zip vs) k = some v ∧ RepV R rho H x v) ∧ (valP k ks xs = none → valV (ks.zip vs) k = none)
  | [], xs, vs, r, l => ⟨fun x e => (by simp only [valP] at e; cases e), fun _ => rfl⟩
  | j :: ks, [], vs, r, l => by cases l
  | j :: ks, x :: xs, vs, r, l => by
    simp only [RepVs] at r
    obtain ⟨v, vs', ev, h1, h2⟩ := r
    subst ev
    obtain ⟨i1, i2⟩ := valP_ok (k := k) h2 (by simpa using l)
    by_cases hj : j = k
    · subst hj
      refine ⟨fun y e => ?_, fun e => ?_⟩
      · simp only [valP, if_true] at e
        cases e
        exact ⟨v, by simp [valV], h1⟩
      · simp only [valP, if_true] at e; cases e
    · have e0 : valV ((j :: ks).zip (v :: vs')) k = valV (ks.zip vs') k := by
        unfold valV
        simp [hj]
      rw [e0]
      simp only [valP, if_neg hj]
      exact ⟨i1, i2⟩
theorem any_zip {k : κ} : ∀ {ks : List κ} {vs : List V}, ks.length = vs.length → ((ks.zip vs).any fun kv => decide (kv.1 = k)) = ks.any fun j => decide (j = k)
  | [], vs, _ => rfl
  | j :: ks, [], h => by cases h
  | j :: ks, v :: vs, h => by
    simp only [List.zip_cons_cons, List.any_cons]
    rw [any_zip (by simpa using h)]
theorem map_zip {k : κ} {y : PV} {w : V} (hw : RepV R rho H y w) : ∀ {ks : List κ} {xs : List PV} {vs : List V}, RepVs R rho H xs vs → ks.length = xs.length →
    ∃ us, RepVs R rho H ((ks.zip xs).map fun p => if p.1 = k then y else p.2) us ∧ (ks.zip vs).map (fun kv => if kv.1 = k then (kv.1, w) else kv) = ks.zip us
  | [], xs, vs, r, l => ⟨[], by simp [RepVs], rfl⟩
  | j :: ks, [], vs, r, l => by cases l
  | j :: ks, x :: xs, vs, r, l => by
    simp only [RepVs] at r
    obtain ⟨v, vs', ev, h1, h2⟩ := r
    subst ev
    obtain ⟨us, i1, i2⟩ := map_zip hw h2 (by simpa using l)
    by_cases hj : j = k
    · refine ⟨w :: us, ?_, ?_⟩
      · simp only [List.zip_cons_cons, List.map_cons, if_pos hj]
        exact RepVs.cons hw i1
      · simp only [List.zip_cons_cons, List.map_cons, if_pos hj, i2]
    · refine ⟨v :: us, ?_, ?_⟩
      · simp only [List.zip_cons_cons, List.map_cons, if_neg hj]
        exact RepVs.cons h1 i1
      · simp only [List.zip_cons_cons, List.map_cons, if_neg hj, i2]
theorem putP_ok {k : κ} {y : PV} {w : V} {ks : List κ} {xs : List PV} {vs : List V} (hw : RepV R rho H y w) (r : RepVs R rho H xs vs) (l : ks.length = xs.length) :
    ∃ us, RepVs R rho H (putP k y ks xs).2 us ∧ putK (ks.zip vs) k w = (putP k y ks xs).1.zip us ∧ (putP k y ks xs).1.length = (putP k y ks xs).2.length := by
  have l3 : ks.length = vs.length := by rw [l, r.length]
  unfold putP putK
  rw [any_zip l3]
  split
  · obtain ⟨us, i1, i2⟩ := map_zip hw r l
    exact ⟨us, i1, i2, by simp [l]⟩
  · refine ⟨vs ++ [w], r.append (RepVs.cons hw (by simp only [RepVs])), ?_, by simp [l]⟩
    rw [List.zip_append l3]
    rfl
end
section
variable {R : RC} {rho : Rho} {st : Sto} {H : Hp}
theorem key_ok {x : PV} {v : V} {k : L2.Key} (r : RepV R rho H x v) (e : OL.keyOf x = some k) : v = kV k := by
  cases x <;> simp only [OL.keyOf] at e <;> first | (cases e; simp only [RepV] at r; exact r) | cases e
theorem keys_ok : ∀ {xs : List PV} {vs : List V} {ks : List L2.Key}, RepVs R rho H xs vs → keysOf xs = some ks → vs = ks.map kV
  | [], vs, ks, r, e => by simp only [keysOf] at e; cases e; simp only [RepVs] at r; subst r; rfl
  | x :: xs, vs, ks, r, e => by
    simp only [keysOf] at e
    split at e
    · rename_i k ks' e1 e2
      cases e
      simp only [RepVs] at r
      obtain ⟨v, vs', ev, h1, h2⟩ := r
      subst ev
      rw [key_ok h1 e1, keys_ok h2 e2]
      rfl
    · cases e
theorem obj_dct (S : StRep R rho st H) {n : Nat} {v : V} {ks : List L2.Key} {xs : List PV} (r : RepV R rho H (.obj n) v) (e : st[n]? = some (.dct ks xs)) : ∃ a vs, v = .ref a ∧ rho.cs[n]? = some (some a) ∧ H a = some (.dK (ks.zip vs)) ∧ ks.length = xs.length ∧ RepVs R rho H xs vs := by
  simp only [RepV] at r
  obtain ⟨b, e1, ln, hu⟩ := r
  obtain ⟨a, vs, ea, ha, la, ra⟩ := S.cell n _ e
  have hb := hu a ea
  subst hb
  exact ⟨a, vs, e1, ea, ha, la, ra⟩
theorem obj_dtt (S : StRep R rho st H) {n : Nat} {v : V} {ks : List (List L2.Key)} {xs : List PV} (r : RepV R rho H (.obj n) v) (e : st[n]? = some (.dtt ks xs)) : ∃ a vs, v = .ref a ∧ rho.cs[n]? = some (some a) ∧ H a = some (.dT (ks.zip vs)) ∧ ks.length = xs.length ∧ RepVs R rho H xs vs := by
  simp only [RepV] at r
  obtain ⟨b, e1, ln, hu⟩ := r
  obtain ⟨a, vs, ea, ha, la, ra⟩ := S.cell n _ e
  have hb := hu a ea
  subst hb
  exact ⟨a, vs, e1, ea, ha, la, ra⟩
theorem isDict_ok (S : StRep R rho st H) {x : PV} {v : V} (r : RepV R rho H x v) (e : isDict st x = true) : ∃ a, v = .ref a ∧ IsD H a := by
  cases x with
  | obj n =>
    simp only [isDict] at e
    split at e
    · rename_i ks xs en
      obtain ⟨a, vs, ev, _, h, _⟩ := obj_dct S r en
      exact ⟨a, ev, .inl ⟨_, .inl h⟩⟩
    · rename_i ks xs en
      obtain ⟨a, vs, ev, _, h, _⟩ := obj_dtt S r en
      exact ⟨a, ev, .inr ⟨_, .inl h⟩⟩
    · cases e
  | _ => cases e
theorem dget_ok (S : StRep R rho st H) {x y : PV} {v u : V} {r : Option PV} (rx : RepV R rho H x v) (ry : RepV R rho H y u) (e : dGetV st x y = some r) : ∃ a o, v = .ref a ∧ DGet H a u o ∧ (∀ z, r = some z → ∃ w, o = some w ∧ RepV R rho H z w) ∧ (r = none → o = none) := by
  cases x with
  | obj n =>
    simp only [dGetV] at e
    split at e
    · rename_i ks xs _ en
      obtain ⟨k, e1, e2⟩ := Option.map_eq_some_iff.mp e
      obtain ⟨a, vs, ev, _, h, l, rs⟩ := obj_dct S rx en
      obtain ⟨q1, q2⟩ := valP_ok (k := k) rs l
      subst e2
      exact ⟨a, _, ev, by rw [key_ok ry e1]; exact DGet.k h, q1, q2⟩
    · rename_i ks xs ys en
      obtain ⟨k, e1, e2⟩ := Option.map_eq_some_iff.mp e
      obtain ⟨a, vs, ev, _, h, l, rs⟩ := obj_dtt S rx en
      obtain ⟨q1, q2⟩ := valP_ok (k := k) rs l
      subst e2
      simp only [RepV] at ry
      obtain ⟨b, us, eu, t, rk⟩ := ry
      subst eu
      rw [keys_ok rk e1] at t
      exact ⟨a, _, ev, DGet.t h t.1, q1, q2⟩
    · cases e
  | _ => cases e
theorem dput_ok (S : StRep R rho st H) {x y z : PV} {v u w : V} {st' : Sto} (rx : RepV R rho H x v) (ry : RepV R rho H y u) (rz : RepV R rho H z w) (e : oPutD x y z st = .ok () st') : ∃ a H', v = .ref a ∧ DPut H a u w H' ∧ Mono rho H rho H' ∧ StRep R rho st' H' := by
  cases x with
  | obj n =>
    simp only [oPutD] at e
    split at e
    · rename_i ks xs en
      split at e
      · rename_i k ek
        split at e
        · rename_i hl
          cases e
          obtain ⟨a, vs, ev, ea, h, l, rs⟩ := obj_dct S rx en
          obtain ⟨us, p1, p2, p3⟩ := putP_ok (k := k) rz rs l
          have hz : (ks.zip vs).length < sizeLine := by rw [List.length_zip, ← rs.length, ← l, Nat.min_self, sizeLine_eq]; exact hl
          have MW : Mono rho H rho (upd H a (.dK (putK (ks.zip vs) k w))) := Mono.write S ea
          refine ⟨a, _, ev, by rw [key_ok ry ek]; exact DPut.k h hz, MW, S.write ea ⟨a, us, ea, by rw [p2]; exact upd_same, p3, p1.mono MW⟩⟩
        · cases e
      · cases e
    · rename_i ks xs ys en
      split at e
      · rename_i k ek
        split at e
        · rename_i hl
          cases e
          obtain ⟨a, vs, ev, ea, h, l, rs⟩ := obj_dtt S rx en
          obtain ⟨us, p1, p2, p3⟩ := putP_ok (k := k) rz rs l
          have hz : (ks.zip vs).length < sizeLine := by rw [List.length_zip, ← rs.length, ← l, Nat.min_self, sizeLine_eq]; exact hl
          simp only [RepV] at ry
          obtain ⟨b, bs, eu, t, rk⟩ := ry
          subst eu
          rw [keys_ok rk ek] at t
          have MW : Mono rho H rho (upd H a (.dT (putK (ks.zip vs) k w))) := Mono.write S ea
          refine ⟨a, _, ev, DPut.t h t.1 hz, MW, S.write ea ⟨a, us, ea, by rw [p2]; exact upd_same, p3, p1.mono MW⟩⟩
        · cases e
      · cases e
    · cases e
  | _ => cases e
end
section
variable {R : RC} {F : CallT} {W : WX} {X : Cx}
theorem pe_dict0 {tp : Bool} {pos : Pos} : PE X (.Dict [] [] pos) (tE R F W (dDict0 tp)) := by
  have fin : ∀ {rho : Rho} {st : Sto} {H : Hp} {sg : L2.St} {Q : VK} {p : Addr} {o : HO} {c : Cell}, StRep R rho st H → H p = none → (c = .dct [] [] ∧ o = .dK [] ∨ c = .dtt [] [] ∧ o = .dT []) → Good R (RepV R) rho H (.ok (.obj st.length) (st ++ [c])) (fun cls d H' => W cls d sg H') Q → Q (.ref p) (upd H p o) := by
    intro rho st H sg Q p o c S hp hc g
    refine g (rho.push p) _ (.ref p) (Mono.push S hp) (S.push hp ?_) ?_
    · rcases hc with ⟨rfl, rfl⟩ | ⟨rfl, rfl⟩
      · exact ⟨p, [], get_push, upd_same, rfl, by simp only [RepVs]⟩
      · exact ⟨p, [], get_push, upd_same, rfl, by simp only [RepVs]⟩
    · simp only [RepV]
      refine ⟨p, rfl, by rw [← S.len]; simp [Rho.push], fun b hb => ?_⟩
      have hb : (rho.cs ++ [some p])[st.length]? = some (some b) := hb
      rw [← S.len, get_push] at hb
      cases hb
      rfl
  cases tp with
  | false => exact PE.weak pe_dnewK fun sg H Q ⟨rho, st, env, hE, hS, g⟩ p hp => fin hS hp (.inl ⟨rfl, rfl⟩) g
  | true => exact PE.weak pe_dnewT fun sg H Q ⟨rho, st, env, hE, hS, g⟩ p hp => fin hS hp (.inr ⟨rfl, rfl⟩) g
theorem pe_get2 {o e f : Expr} {ap p : Pos} {mo me mf : D PV} (hu : X.A.units + 1 < cLine) (ho : PE X o (tE R F W mo)) (he : PE X e (tE R F W me)) (hf : PE X f (tE R F W mf)) (m : M2 X o "get" ap e f p) :
    PE X (.Call (.Attribute o "get" ap) [e, f] [] p) (tE R F W (dGet2 mo me mf)) := by
  refine PE.weak (pe_dget2 hu ho he hf m) fun sg H Q ⟨rho, st, env, hE, hS, g⟩ => ?_
  refine ⟨rho, st, env, hE, hS, (Good.bnd g).imp fun v H1 ⟨rho1, st1, d, M1, S1, r1, g1⟩ => ?_⟩
  split at g1
  · rename_i hd
    obtain ⟨a, ev, isd⟩ := isDict_ok S1 r1 hd
    refine ⟨a, ev, isd, rho1, st1, env, hE.mono M1, S1, (Good.bnd g1).imp fun u H2 ⟨rho2, st2, k, M2, S2, r2, g2⟩ => ?_⟩
    refine ⟨rho2, st2, env, (hE.mono M1).mono M2, S2, (Good.bnd g2).imp fun w H3 ⟨rho3, st3, z, M3, S3, r3, g3⟩ => ?_⟩
    split at g3
    · rename_i r er
      obtain ⟨a', ov, ea', dg, q1, q2⟩ := dget_ok S3 ((r1.mono M2).mono M3) (r2.mono M3) er
      rw [ev] at ea'
      cases ea'
      refine ⟨ov, dg, ?_⟩
      cases r with
      | none =>
        rw [q2 rfl]
        exact fin_v S3 r3 g3
      | some z' =>
        obtain ⟨w', e1, e2⟩ := q1 z' rfl
        subst e1
        exact fin_v S3 e2 g3
    · exact g3.elim
  · exact g1.elim
theorem ps_putG {o i value : Expr} {pos pos' : Pos} {mo mi ma : D PV} (hu : X.A.units + 1 < cLine) (ho : PE X o (tE R F W mo)) (hi : PE X i (tE R F W mi)) (hv : PE X value (tE R F W ma)) (hs : swapsWith value (some (.Subscript o i pos')) pos.line X.env = pure false) :
    PS X (.Assign [.Subscript o i pos'] value pos) (tS R F W (sPut mo mi ma)) := by
  refine PS.weak (ps_dput hu ho hi hv hs) fun En sg H ⟨rho, st, env, hE, hS, g⟩ => ?_
  refine ⟨rho, st, env, hE, hS, (GoodS.at hE g).imp fun v H1 ⟨rho1, st1, z, M1, S1, r1, g1⟩ => ?_⟩
  have hE1 := hE.mono M1
  refine ⟨rho1, st1, env, hE1, S1, (GoodS.at hE1 g1).imp fun x H2 ⟨rho2, st2, d, M2, S2, r2, g2⟩ => ?_⟩
  have hE2 := hE1.mono M2
  refine ⟨rho2, st2, env, hE2, S2, (GoodS.at hE2 g2).imp fun y H3 ⟨rho3, st3, k, M3, S3, r3, g3⟩ => ?_⟩
  have hE3 := hE2.mono M3
  cases ep : oPutD d k z st3 with
  | bad => rw [ep] at g3; exact g3.elim
  | exc c ks xs s =>
    exfalso
    unfold oPutD at ep
    repeat' (split at ep)
    all_goals cases ep
  | ok un st4 =>
    rw [ep] at g3
    obtain ⟨a, H4, e1, dp, MW, S4⟩ := dput_ok S3 (r2.mono M3) r3 ((r1.mono M2).mono M3) ep
    exact ⟨a, H4, e1, dp, g3 rho3 H4 sg MW S4 (hE3.mono MW)⟩
/-- o[i] = v, o a list or a dict -/
theorem sub_cases {o i a : D PV} {e : LEnv} {st : Sto} : sSub o i a F e st = sPut o i a F e st ∨ sSub o i a F e st = sAsg a (gSb o i) F e st := by
  unfold sSub sPut sAsg gSb
  cases a F e st with
  | bad => exact .inl rfl
  | exc c ks xs s => exact .inl rfl
  | ok v s =>
    simp only [Res.at]
    cases o F e s with
    | bad => exact .inl rfl
    | exc c ks xs s => exact .inl rfl
    | ok x s1 =>
      simp only [Res.bnd]
      cases i F e s1 with
      | bad => exact .inl rfl
      | exc c ks xs s => exact .inl rfl
      | ok y s2 =>
        simp only [oPut]
        by_cases hd : isDict s2 x = true
        · rw [if_pos hd]; exact .inl rfl
        · rw [if_neg hd]
          refine .inr ?_
          cases oSet x y v s2 <;> rfl
theorem ps_subG {o i value : Expr} {pos pos' : Pos} {mo mi ma : D PV} (h1 : PS X (.Assign [.Subscript o i pos'] value pos) (tS R F W (sPut mo mi ma))) (h2 : PS X (.Assign [.Subscript o i pos'] value pos) (tS R F W (sAsg ma (gSb mo mi)))) :
    PS X (.Assign [.Subscript o i pos'] value pos) (tS R F W (sSub mo mi ma)) := by
  refine ⟨fun pins s sg H En I ⟨rho, st, env, hE, hS, g⟩ => ?_⟩
  rcases sub_cases (F := F) (o := mo) (i := mi) (a := ma) (e := env) (st := st) with q | q
  · exact h1.run pins s sg H En I ⟨rho, st, env, hE, hS, by rw [← q]; exact g⟩
  · exact h2.run pins s sg H En I ⟨rho, st, env, hE, hS, by rw [← q]; exact g⟩
end
/-! ## f-strings -/
section
variable {R : RC} {F : CallT} {W : WX} {X : Cx}
theorem pe_fmtG {e : Expr} {m : D PV} {pos : Pos} (he : PE X e (tE R F W m)) : PE X (.FormattedValue e (-1) none pos) (tE R F W (d1 oFmt m)) := by
  refine PE.weak (pe_fmt he) fun sg H Q ⟨rho, st, env, hE, hS, g⟩ => ⟨rho, st, env, hE, hS, (Good.bnd g).imp fun v H1 ⟨rho1, st1, x, M1, S1, r1, g1⟩ => ?_⟩
  cases x with
  | str y =>
    simp only [oFmt] at g1
    split at g1
    · rename_i hz
      simp only [RepV] at r1
      exact .inl ⟨y, r1, by rw [sizeLine_eq]; exact hz, fin_s S1 g1⟩
    · exact g1.elim
  | int i =>
    simp only [oFmt] at g1
    split at g1
    · rename_i hz
      simp only [RepV] at r1
      exact .inr ⟨i, r1, hz, fin_s S1 g1⟩
    · exact g1.elim
  | _ => exact g1.elim
theorem js_ok {sg : L2.St} {Q : Str → Hp → Prop} {env : LEnv} : ∀ {ms : List (D PV)} {acc : Str} {rho : Rho} {st : Sto} {H : Hp}, EnvRep R rho H env sg → StRep R rho st H → Good R (RepV R) rho H (dJs ms acc F env st) (fun cls d H' => W cls d sg H') (fun v H' => ∃ y, v = .str y ∧ Q y H') →
    tJs (ms.map (tE R F W)) acc sg H Q
  | [], acc, rho, st, H, hE, hS, g => by
    obtain ⟨y, e, q⟩ := fin_s hS g
    cases e
    exact q
  | m :: ms, acc, rho, st, H, hE, hS, g => by
    refine ⟨rho, st, env, hE, hS, (Good.bnd g).imp fun v H1 ⟨rho1, st1, x, M1, S1, r1, g1⟩ => ?_⟩
    cases x with
    | str y =>
      simp only at g1
      split at g1
      · rename_i hz
        simp only [RepV] at r1
        exact ⟨y, r1, by rw [sizeLine_eq]; exact hz, js_ok (hE.mono M1) S1 g1⟩
      · exact g1.elim
    | _ => exact g1.elim
theorem pe_joinG {v1 v2 : Expr} {rest : List Expr} {ms : List (D PV)} {pos : Pos} (h : PJ X (v1 :: v2 :: rest) (ms.map (tE R F W))) : PE X (.JoinedStr (v1 :: v2 :: rest) pos) (tE R F W (dJs ms Str.empty)) := by
  refine PE.weak (pe_joined h) fun sg H Q ⟨rho, st, env, hE, hS, g⟩ => js_ok hE hS ?_
  have key : ∀ (ms : List (D PV)) (acc : Str) (st : Sto), (∃ y s, dJs ms acc F env st = .ok (.str y) s) ∨ (∃ c ks xs s, dJs ms acc F env st = .exc c ks xs s) ∨ dJs ms acc F env st = .bad := by
    intro ms
    induction ms with
    | nil => intro acc st; exact .inl ⟨acc, st, rfl⟩
    | cons m r ih =>
      intro acc st
      simp only [dJs]
      cases m F env st with
      | bad => exact .inr (.inr rfl)
      | exc c ks xs s => exact .inr (.inl ⟨c, ks, xs, s, rfl⟩)
      | ok x s =>
        simp only [Res.bnd]
        cases x with
        | str y =>
          simp only
          split
          · exact ih _ _
          · exact .inr (.inr rfl)
        | _ => exact .inr (.inr rfl)
  rcases key ms Str.empty st with ⟨y, s, e⟩ | ⟨c, ks, xs, s, e⟩ | e
  · rw [e] at g ⊢
    intro rho' H' v M S r
    have r2 := r
    simp only [RepV] at r
    exact ⟨y, r, by rw [← r]; exact g rho' H' v M S r2⟩
  · rw [e] at g ⊢; exact g
  · rw [e] at g; exact g.elim
end
end OL
set_option maxRecDepth 100000
set_option maxHeartbeats 0
/-! ## own == and !=, str, repr, bool of instances: at the machine -/
namespace OL
open PySem PySem.W PySem.Spec PySem.Calls PyProof.Rows
section
variable {prog : Program} {w : World} {M : Model} {A : Around} {E : Value → Shared → Prop} {s : Shared} {K : Frag} {x C f : Addr} {ox : Obj} {od : Option Obj} {b tb : Value}
/-- a built-in special of an instance, bound and called -/
theorem bound_B {name : Str} {id : String} {args : List Value} {Q : Option Value → Shared → Prop} (X : K.In s.heap) (I : InstAt s.heap x ox C od) (hs : findIn K (.ref C) name = some (some (.builtin id)))
    (hb : ∀ self, bindSpecial (.builtin id) self = pure (.builtin id, [self])) (h : wpAny M A (call (.builtin id) (.ref x :: args)) (fun v => Q (some v)) E s) : wpAny M A (callSpecialIfBound? (.ref x) name args) Q E s := by
  simp only [callSpecialIfBound?, bindSpecialIfBound?]
  refine wpAny_holding (wpAny_bind (wpAny_bind (wpAny_bind (I.type.here ((looks_findIn X hs).here ?_)))))
  refine wpAny_bind (wpAny_askSetting (wpAny_ite ?_))
  have last : wpAny M A (call (.builtin id) ([.ref x] ++ args) >>= fun v => pure (some v)) Q E s := wpAny_bind (wpAny_mono h (fun _ _ z => wpAny_pure z) fun _ _ z => z)
  split
  · exact wpAny_bind ((Looks.of_pure (hb _)).here (wpAny_pure (by exact last)))
  · exact wpAny_tryCatch (wpAny_bind ((Looks.of_pure (hb _)).here (wpAny_pure (by exact last))))
/-- object.__ne__ over an own __eq__ -/
theorem call_ne {Q : Value → Shared → Prop} (hu : A.in1.units < cLine) (X : K.In s.heap) (I : InstAt s.heap x ox C od) (hm : mroIn K C (.type "object") = some true) (hs : findIn K (.ref C) "__eq__" = some (some (.ref f))) (hf : isFn K (.ref f) = true)
    (h : wpAny (model prog w) A.in1 (call (.ref f) [.ref x, b]) (fun v s' => ∃ r, v = .bool r ∧ Q (.bool (!r)) s') E s) : wpAny (model prog w) A (call (.builtin "object.__ne__") [.ref x, b]) Q E s := by
  refine wpAny_call (codeAny_call_builtin PySem.F.cmp_object.ne.plain PySem.F.cmpEntry_ne (check_slot (i := "object.__ne__") (owner := "object") (n := "__ne__") PySem.F.cmpKind_ne PySem.F.cmpSplit_ne (I.type.andThen (looks_mroIn X hm)) (PySem.F.cmpArgs_ne _ _) ?_))
  unfold Builtin.«object.__ne__»
  refine wpAny_bind (m := slotArgs "__ne__" 1 _) (wpAny_pure ?_)
  refine wpAny_bind (m := cRoomFor _ _) (wpAny_cRoomFor hu ?_)
  refine wpAny_bind (m := callSpecialIfBound? (.ref x) (Str.ofString "__eq__") _) (ifBound_K X I hs hf (wpAny_mono h (fun v s' hv => ?_) fun _ _ e => e))
  obtain ⟨r, rfl, hq⟩ := hv
  refine wpAny_bind (m := truthy (.bool r)) (wpAny_truthy_bool ?_)
  exact wpAny_pure hq
theorem ne_K {Q : Value → Shared → Prop} (hu : A.units < cLine) (hu1 : A.in1.units < cLine) (X : K.In s.heap) (I : InstAt s.heap x ox C od) (hb : Looks (model prog w) s.heap (typeOf b) tb) (hn : notFirst K C tb = true)
    (hm : mroIn K C (.type "object") = some true) (hne : findIn K (.ref C) "__ne__" = some (some (.builtin "object.__ne__"))) (hs : findIn K (.ref C) "__eq__" = some (some (.ref f))) (hf : isFn K (.ref f) = true)
    (h : wpAny (model prog w) A.in1 (call (.ref f) [.ref x, b]) (fun v s' => ∃ r, v = .bool r ∧ Q (.bool (!r)) s') E s) : wpAny (model prog w) A (richCompare .NotEq (.ref x) b) Q E s := by
  have one : wpAny (model prog w) A (tryCompare (.ref x) "__ne__" b) (fun r s' => ∃ v, r = some v ∧ Q v s') E s := by
    unfold tryCompare
    refine wpAny_bind (bound_B X I hne PySem.F.cmp_object.ne.bind (call_ne hu1 X I hm hs hf (wpAny_mono h (fun v s' hv => ?_) fun _ _ e => e)))
    obtain ⟨r, rfl, hq⟩ := hv
    exact ⟨r, rfl, wpAny_pure ⟨_, rfl, hq⟩⟩
  unfold richCompare
  simp only [oneThing_ref]
  refine wpAny_holding (wpAny_bind (wpAny_cRoomFor hu ?_))
  refine wpAny_bind (I.type.here (wpAny_bind (hb.here ?_)))
  split
  · rename_i q
    have e : subIn K tb (.ref C) = some false := by
      rcases Bool.or_eq_true_iff.mp hn with e | e
      · rw [beq_iff_eq.mp e] at q; simp at q
      · exact beq_iff_eq.mp e
    refine wpAny_bind ((looks_subIn X e).here ?_)
    simp only [Bool.false_eq_true, if_false]
    refine wpAny_bind (wpAny_mono one (fun r s' z => ?_) fun _ _ e => e)
    obtain ⟨v, rfl, hq⟩ := z
    exact wpAny_pure hq
  · refine wpAny_bind (wpAny_pure ?_)
    simp only [Bool.false_eq_true, if_false]
    refine wpAny_bind (wpAny_mono one (fun r s' z => ?_) fun _ _ e => e)
    obtain ⟨v, rfl, hq⟩ := z
    exact wpAny_pure hq
/-- == from the left by a built-in that declines -/
theorem eq_back {T : String} {id : String} {a : Value} {Q : Value → Shared → Prop} (hu : A.units < cLine) (hT : s.TypeIs a T) (X : K.In s.heap) (I : InstAt s.heap x ox C od) (hsub : subIn K (.ref C) (.type T) = some false) (sl : Slot T (cmpInfo .Eq).2.1 id)
    (hd : ∀ Q' : Value → Shared → Prop, Q' .notImplemented s → wpAny (model prog w) A (call (.builtin id) [a, .ref x]) Q' E s)
    (hs : findIn K (.ref C) "__eq__" = some (some (.ref f))) (hf : isFn K (.ref f) = true)
    (h : wpAny (model prog w) A (call (.ref f) [.ref x, a]) (W.CmpBack Q) E s) : wpAny (model prog w) A (richCompare .Eq a (.ref x)) Q E s := by
  rcases hi : cmpInfo CmpOp.Eq with ⟨sym, g, r⟩
  have hg : g = "__eq__" := by have : (cmpInfo .Eq).2.1 = ("__eq__" : Str) := rfl; rw [hi] at this; exact this
  have hr : r = "__eq__" := by have : (cmpInfo .Eq).2.2 = ("__eq__" : Str) := rfl; rw [hi] at this; exact this
  rw [hi] at sl
  simp only [richCompare, hi, hT.oneThing_none]
  refine wpAny_holding (wpAny_bind (wpAny_cRoomFor hu ?_))
  refine wpAny_bind (wpAny_typeOf hT (wpAny_bind (I.type.here ?_)))
  rw [if_pos (show ((Value.type T != Value.ref C) = true) by simp)]
  refine wpAny_bind ((looks_subIn X hsub).here ?_)
  simp only [Bool.false_eq_true, if_false, Bool.not_false, if_true]
  refine wpAny_bind (m := tryCompare a _ (.ref x)) (wpAny_tryCompare_declines hT sl (hd _ ?_))
  subst hr
  have one : wpAny (model prog w) A (tryCompare (.ref x) "__eq__" a) (fun r s' => ∃ v, r = some v ∧ Q v s') E s := by
    unfold tryCompare
    refine wpAny_bind (ifBound_K X I hs hf (wpAny_mono h (fun v s' hv => ?_) fun _ _ e => e))
    cases v <;> first | exact hv.elim | exact wpAny_pure ⟨_, rfl, hv⟩
  refine ⟨rfl, ?_⟩
  dsimp only
  refine wpAny_bind (m := tryCompare (.ref x) _ a) (wpAny_mono one (fun r s' z => ?_) fun _ _ e => e)
  obtain ⟨v, rfl, hq⟩ := z
  exact wpAny_pure hq
end
end OL
set_option maxRecDepth 100000
set_option maxHeartbeats 0
/-! ## built-in == declines beside an instance -/
namespace OL
open PySem PySem.W PySem.Spec PySem.Calls PyProof.Rows
section
variable {prog : Program} {w : World} {A : Around} {E : Value → Shared → Prop} {h : Heap} {g : Array GenState} {d : Drawn} {t : Nat} {os : OsState} {x C dx l : Addr} {Q : Fin → Shared → Prop}
theorem dec_list (hi : W.Looks (model prog w) h (isInstance (.ref x) (.type "list")) false) (hq : Q (.done (.ret .notImplemented)) ⟨h, g, d, t, os⟩) :
    wpAny (model prog w) A (Builtin.«list.__eq__» ⟨[.ref l, .ref x], []⟩) Q E ⟨h, g, d, t, os⟩ := by
  wp_walk using Looks.at hi
  exact hq
theorem dec_tuple (hi : W.Looks (model prog w) h (isInstance (.ref x) (.type "tuple")) false) (hq : Q (.done (.ret .notImplemented)) ⟨h, g, d, t, os⟩) :
    wpAny (model prog w) A (Builtin.«tuple.__eq__» ⟨[.ref l, .ref x], []⟩) Q E ⟨h, g, d, t, os⟩ := by
  wp_walk using Looks.at hi
  exact hq
theorem dec_dict (hi : W.Looks (model prog w) h (isInstance (.ref x) (.type "dict")) false) (hq : Q (.done (.ret .notImplemented)) ⟨h, g, d, t, os⟩) :
    wpAny (model prog w) A (Builtin.«dict.__eq__» ⟨[.ref l, .ref x], []⟩) Q E ⟨h, g, d, t, os⟩ := by
  wp_walk using Looks.at hi
  exact hq
theorem dec_int {i : Int} {u : Tok} (hx : h.get? x = some (W.instObj C dx)) (hq : Q (.done (.ret .notImplemented)) ⟨h, g, d, t, os⟩) :
    wpAny (model prog w) A (Builtin.«int.__eq__» ⟨[.int i u, .ref x], []⟩) Q E ⟨h, g, d, t, os⟩ := by
  wp_walk using PySem.AutoSeq1.wpAny_loadPart' hx, wpAny_load hx
  exact hq
theorem dec_bool {i : Bool} (hx : h.get? x = some (W.instObj C dx)) (hq : Q (.done (.ret .notImplemented)) ⟨h, g, d, t, os⟩) :
    wpAny (model prog w) A (Builtin.«int.__eq__» ⟨[.bool i, .ref x], []⟩) Q E ⟨h, g, d, t, os⟩ := by
  wp_walk using PySem.AutoSeq1.wpAny_loadPart' hx, wpAny_load hx
  exact hq
theorem dec_str {i : Str} {u : Tok} (hx : h.get? x = some (W.instObj C dx)) (hq : Q (.done (.ret .notImplemented)) ⟨h, g, d, t, os⟩) :
    wpAny (model prog w) A (Builtin.«str.__eq__» ⟨[.str i u, .ref x], []⟩) Q E ⟨h, g, d, t, os⟩ := by
  wp_walk using PySem.AutoSeq1.wpAny_loadPart' hx, wpAny_load hx
  exact hq
theorem dec_none (hq : Q (.done (.ret .notImplemented)) ⟨h, g, d, t, os⟩) :
    wpAny (model prog w) A (Builtin.«NoneType.__eq__» ⟨[.none, .ref x], []⟩) Q E ⟨h, g, d, t, os⟩ := by
  wp_walk
  exact hq
end
end OL
set_option maxRecDepth 100000
set_option maxHeartbeats 0
/-! ## own == and != in the layer -/
namespace OL
open PySem PySem.Spec PyProof.Rows L2
/-- what the text says of a class whose instances are compared, told, tested -/
structure OwnC (K : PySem.W.Frag) (C : Addr) : Prop where
  ne : PySem.W.findIn K (.ref C) "__ne__" = some (some (.builtin "object.__ne__"))
  ob : PySem.W.mroIn K C (.type "object") = some true
  sub : ∀ n : Nat, n < 7 → PySem.W.subIn K (.ref C) (.type (tyN n)) = some false
  isn : ∀ n : Nat, n < 7 → PySem.W.mroIn K C (.type (tyN n)) = some false
  nf : ∀ n : Nat, n < 7 → PySem.W.notFirst K C (.type (tyN n)) = true
  bo : PySem.W.findIn K (.ref C) "__bool__" = some none
  ln : PySem.W.findIn K (.ref C) "__len__" = some none
structure OwnS (R : RC) (own : Nat → Bool) (K : PySem.W.Frag) : Prop where
  c : ∀ c, own c = true → OwnC K (R.cA c)
  cc : ∀ c d, own c = true → own d = true → PySem.W.notFirst K (R.cA c) (.ref (R.cA d)) = true
def ownRes (neg : Bool) (r : Res PV) : Res PV := match r with
  | .ok (.bl t) s => .ok (.bl (t != neg)) s
  | _ => .bad
def tyOwn (own : Nat → Bool) : Ty → Bool
  | .b n => decide (n < 7)
  | .c d => own d
  | .x _ => false
/-- no dict with tuple keys -/
def noDtt (st : Sto) : PV → Bool
  | .obj n => match st[n]? with
    | some (.dtt _ _) => false
    | _ => true
  | _ => true
def cmpO (own : Nat → Bool) (b : Tb) (m : Nat) (neg : Bool) (F : CallT) : Op2 := fun x y st =>
  match clsOf st x with
  | some c => (match b.mt c m, tyOf st y with
    | some j, some t => if own c && tyOwn own t && noDtt st y then ownRes neg (F j [x, y] st) else .bad
    | _, _ => .bad)
  | none => (match clsOf st y with
    | some c => (match b.mt c m, tyOf st x with
      | some j, some (.b n) => if own c && !neg && decide (n < 7) && noDtt st x then ownRes false (F j [y, x] st) else .bad
      | _, _ => .bad)
    | none => if neg then oNe x y st else oEq x y st)
def d2F (o : CallT → Op2) (a b : D PV) : D PV := fun F e st => d2 (o F) a b F e st
section
variable {R : RC} {rho : Rho} {st : Sto} {H : Hp} {Wx : Value → Option Addr → Hp → Prop} {Q : VK}
theorem ownRes_good {neg : Bool} {r : Res PV} (g : Good R (RepV R) rho H (ownRes neg r) Wx Q) : Good R (RepV R) rho H r (fun _ _ _ => False) (fun z H' => ∃ t, z = .bl t ∧ Q (.bl (t != neg)) H') := by
  unfold ownRes at g
  split at g
  · rename_i t s
    intro rho' H' z M S rz
    simp only [RepV] at rz
    subst rz
    exact ⟨t, rfl, g rho' H' _ M S (by simp only [RepV])⟩
  · exact g.elim
theorem ty_b {x : PV} {v : V} {n : Nat} (S : StRep R rho st H) (r : RepV R rho H x v) (e : tyOf st x = some (.b n)) (nd : noDtt st x = true) : TyB R.K H v (tyN n) := by
  cases x with
  | non => simp only [tyOf] at e; cases e; simp only [RepV] at r; subst r; exact .non
  | bl b => simp only [tyOf] at e; cases e; simp only [RepV] at r; subst r; exact .bl b
  | int b => simp only [tyOf] at e; cases e; simp only [RepV] at r; subst r; exact .int b
  | str b => simp only [tyOf] at e; cases e; simp only [RepV] at r; subst r; exact .str b
  | tup xs =>
    simp only [tyOf] at e; cases e
    obtain ⟨a, vs, ev, h, _⟩ := seqOf_ok S r (xs := xs) rfl
    subst ev
    simp only [RepV] at r
    obtain ⟨a', vs', ev, t, _⟩ := r
    cases ev
    exact .tup t.sq
  | kt xs =>
    simp only [tyOf] at e; cases e
    simp only [RepV] at r
    obtain ⟨a', vs', ev, t, _⟩ := r
    subst ev
    exact .tup (.inr t)
  | lv xs =>
    simp only [tyOf] at e; cases e
    obtain ⟨a, vs, ev, h, _⟩ := listOf_ok S r (xs := xs) rfl
    subst ev
    exact .lst h
  | fl xs =>
    simp only [tyOf] at e; cases e
    obtain ⟨a, vs, ev, h, _⟩ := listOf_ok S r (xs := xs) rfl
    subst ev
    exact .lst h
  | dv ks xs =>
    simp only [tyOf] at e; cases e
    simp only [RepV] at r
    obtain ⟨a, vs, ev, h, _⟩ := r
    subst ev
    exact .dK h
  | obj n =>
    simp only [tyOf] at e
    split at e
    · rename_i xs en
      cases e
      obtain ⟨a, vs, ev, _, h, _⟩ := obj_list S r en
      subst ev
      exact .lst (.inl (.inl h))
    · cases e
    · rename_i ks xs en
      cases e
      obtain ⟨a, vs, e1, h1, h2, _⟩ := S.cell _ _ en
      simp only [RepV] at r
      obtain ⟨a', ev, _, u⟩ := r
      subst ev
      rw [← u a e1]
      exact .dK h1
    · rename_i ks xs en
      simp only [noDtt, en] at nd
      cases nd
    · cases e
  | _ => simp only [tyOf] at e; cases e
end
section
variable {R : RC} {b : Tb} {mN : Nat → Str} {fD : Nat → FuncData} {T : List FnI} {X : Cx} {k : Nat} {md : Md} {own : Nat → Bool} {m : Nat}
/-- a def is called under another around -/
theorem run_under {A : Around} {j : Nat} {pins : List (Addr × Obj)} {sg : L2.St} {H : Hp} {s : Shared} {Q : VK} {us : List Value} {vs : List V} {rho : Rho} {st : Sto} {xs : List PV} (lk : Lnk R b mN fD T X.K) (fs : Fns md R fD T X.prog X.w X.K X.mg X.base k)
    (hr : RoomG md.isHot (6 * k + hb md) A) (hA : A.frames = X.A.frames) (I : Inv X pins sg H s) (r : Vals vs us) (S : StRep R rho st H) (rx : RepVs R rho H xs vs) (g : Good R (RepV R) rho H (callK T k j xs st) (fun _ _ _ => False) Q) :
    wpAny (model X.prog X.w) A (call (.ref (R.fA j)) us) (EP X pins sg Q) X.xe s := by
  obtain ⟨fi, hj, hl⟩ := callK_fn g
  have l1 := rx.length
  have l2 := r.length
  have e0 : Env0 X.prog X.w X.K X.mg X.base A X.stack s H := by
    have e := I.env0
    exact ⟨by rw [hA]; exact e.frames, e.mod, e.bs, e.bsz, e.funs, e.frf, e.hok, e.bare⟩
  have hb : BindsTo s (fD j) ⟨us, []⟩ (fi.ps.zip us) := lk.posB j fi hj s us I.kIn (by omega)
  refine wpAny_call (codeAny_mono ((fs j fi hj).run A X.stack s H ⟨us, []⟩ us vs Q (fun _ _ _ => False) hr e0 hb r ⟨by omega, rho, st, xs, S, rx, g⟩) fun r s' hq => ?_)
  have z := back_g (W := fun _ _ _ _ => False) takesm0 I r s' hq
  cases r with
  | error e => exact z
  | ok fl => cases fl with
    | ret u => exact z
    | next => exact z
    | brk => exact z
    | cont => exact z
/-- an instance, as the machine sees it -/
theorem inst_at {pins : List (Addr × Obj)} {sg : L2.St} {H : Hp} {s : Shared} {a C dx : Addr} {fs : List (Str × V)} (I : Inv X pins sg H s) (e : H a = some (.ins C dx fs)) : ∃ ox od, PySem.W.InstAt s.heap a ox C od ∧ s.heap.get? a = some (PySem.W.instObj C dx) := by
  obtain ⟨mA, J, _⟩ := ins_get I.hok e
  obtain ⟨od, J2, _⟩ := J.look
  obtain ⟨d, z, ne, ob, _⟩ := (show ObjOk X.prog X.w H s.heap a (.ins C dx fs) from I.hok a _ e)
  exact ⟨_, _, J2, ob⟩
end
end OL
set_option maxRecDepth 100000
set_option maxHeartbeats 0
namespace OL
open PySem PySem.Spec PyProof.Rows L2
def rCmp (R : RC) (own : Nat → Bool) (b : Tb) (m : Nat) (neg : Bool) (F : CallT) : R2 := fun x y H Q =>
  ∃ rho st px py, StRep R rho st H ∧ RepV R rho H px x ∧ RepV R rho H py y ∧ Good R (RepV R) rho H (cmpO own b m neg F px py st) (fun _ _ _ => False) Q
theorem snd_cmp {R : RC} {own : Nat → Bool} {b : Tb} {m : Nat} {neg : Bool} {F : CallT} : Op2Snd R (cmpO own b m neg F) (rCmp R own b m neg F) := by
  intro rho st H x y v u Wx Q S rx ry g
  refine ⟨rho, st, x, y, S, rx, ry, ?_⟩
  cases e : cmpO own b m neg F x y st with
  | ok a s => rw [e] at g; exact g
  | bad => rw [e] at g; exact g
  | exc c ks xs s =>
    exfalso
    unfold cmpO at e
    have no : ∀ n r a b c d, ownRes n r ≠ .exc a b c d := fun n r a b c d h => by
      unfold ownRes at h
      split at h <;> cases h
    split at e
    · split at e
      · split at e
        · exact no _ _ _ _ _ _ e
        · cases e
      · cases e
    · split at e
      · split at e
        · split at e
          · exact no _ _ _ _ _ _ e
          · cases e
        · cases e
      · split at e
        · unfold oNe at e; split at e <;> cases e
        · unfold oEq at e; split at e <;> cases e
section
variable {R : RC} {b : Tb} {mN : Nat → Str} {fD : Nat → FuncData} {T : List FnI} {X : Cx} {k : Nat} {md : Md} {own : Nat → Bool} {m : Nat}
theorem looks_is {M : Model} {s : Shared} {v : Value} {T : String} (h : s.TypeIs v T) : PySem.W.Looks M s.heap (typeOf v) (.type T) := by
  cases v with
  | ref a =>
    obtain ⟨o, h1, h2⟩ := h
    exact h2 ▸ (PySem.W.Looks.ld h1).andThen .now
  | _ => exact PySem.W.Looks.of_pure h
/-- the right side's type -/
theorem ty_look {pins : List (Addr × Obj)} {sg : L2.St} {H : Hp} {s : Shared} {rho : Rho} {st : Sto} {y : PV} {v : V} {u : Value} {t : Ty} {c : Nat} (hK : X.K = R.K) (os : OwnS R own X.K) (hc : own c = true) (I : Inv X pins sg H s) (S : StRep R rho st H) (r : RepV R rho H y v) (ru : RelV v u)
    (e : tyOf st y = some t) (ho : tyOwn own t = true) (nd : noDtt st y = true) : ∃ tb, PySem.W.Looks (model X.prog X.w) s.heap (typeOf u) tb ∧ PySem.W.notFirst X.K (R.cA c) tb = true := by
  cases t with
  | b n =>
    have hn : n < 7 := of_decide_eq_true ho
    have ty := ty_b S r e nd
    rw [← hK] at ty
    have ti := ty.is I ru
    exact ⟨.type (tyN n), looks_is ti, (os.c c hc).nf n hn⟩
  | c d =>
    have ec : clsOf st y = some d := by
      cases y with
      | iv c ks xs => simp only [tyOf] at e; cases e; rfl
      | obj n =>
        simp only [tyOf] at e
        split at e
        · cases e
        · rename_i en; cases e; simp only [clsOf, en]
        · cases e
        · cases e
        · cases e
      | _ => simp only [tyOf] at e; cases e
    obtain ⟨a, dx, ks, vs, ev, h1, _⟩ := clsOf_ok S r ec
    subst ev
    cases ru
    obtain ⟨ox, od, J, _⟩ := inst_at I h1
    exact ⟨.ref (R.cA d), J.type, os.cc c d hc ho⟩
  | x d => exact absurd ho (by simp [tyOwn])
theorem back_bl {pins : List (Addr × Obj)} {sg : L2.St} {Q : VK} {neg : Bool} {v : Value} {s' : Shared} (h : EP X pins sg (fun z H' => ∃ t, z = .bl t ∧ Q (.bl (t != neg)) H') v s') : ∃ t, v = .bool t ∧ EP X pins sg Q (.bool (t != neg)) s' := by
  obtain ⟨z, H', I', rz, t, rfl, q⟩ := h
  cases (show v = Value.bool t from rz)
  exact ⟨t, rfl, .bl (t != neg), H', I', rfl, q⟩
theorem room1 {hot : Bool} {n : Nat} {A : Around} (h : RoomG hot (n + 1) A) : RoomG hot n A.in1 := h.in1
theorem op_cmpE (hK : X.K = R.K) (lk : Lnk R b mN fD T X.K) (fs : Fns md R fD T X.prog X.w X.K X.mg X.base k) (hr : RoomG md.isHot (6 * k + hb md + 1) X.A) (os : OwnS R own X.K) (hm : mN m = "__eq__") :
    OpR X (compareOp .Eq) (rCmp R own b m false (callK T k)) := by
  intro pins s sg H x y v u Q I rx ry ⟨rho, st, px, py, S, qx, qy, g⟩
  have hu : X.A.units < cLine := hr.units0
  have h0 : RoomG md.isHot (6 * k + hb md) X.A := hr.mono (Nat.le_succ _)
  unfold cmpO at g
  split at g
  · rename_i c ec
    split at g
    · rename_i j t ej et
      split at g
      · rename_i hc
        simp only [Bool.and_eq_true] at hc
        obtain ⟨a, dx, ks, vs, ev, h1, _⟩ := clsOf_ok S qx ec
        subst ev
        cases rx
        obtain ⟨ox, od, J, _⟩ := inst_at I h1
        obtain ⟨tb, ht, hn⟩ := ty_look (c := c) hK os hc.1.1 I S qy ry et hc.1.2 hc.2
        obtain ⟨M1, _⟩ := lk.mth c m j ej
        rw [hm] at M1
        obtain ⟨mm, hF⟩ := I.fr
        show wpAny (model X.prog X.w) X.A (richCompare .Eq (.ref a) u) (EP X pins sg Q) X.xe s
        refine PySem.W.cmp_K (op := .Eq) (tb := tb) hu hF I.ok.mod.kin J ht hn M1.at_ M1.fn ?_
        refine wpAny_mono (run_under (A := X.A) (us := [.ref a, u]) (vs := [.ref a, y]) lk fs h0 rfl I (.cons rfl (.cons ry .nil)) S (RepVs.cons qx (RepVs.cons qy (by simp only [RepVs]))) (ownRes_good g)) (fun r s' z => ?_) fun _ _ e => e
        obtain ⟨t, rfl, z2⟩ := back_bl (Q := Q) (neg := false) z
        rw [Bool.bne_false] at z2
        exact z2
      · exact g.elim
    · exact g.elim
  · rename_i ec
    split at g
    · rename_i c ec2
      split at g
      · rename_i j n ej et
        split at g
        · rename_i hc
          simp only [Bool.and_eq_true, decide_eq_true_eq] at hc
          obtain ⟨⟨⟨hc1, _⟩, hn⟩, nd⟩ := hc
          obtain ⟨a, dx, ks, vs, ev, h1, _⟩ := clsOf_ok S qy ec2
          subst ev
          cases ry
          obtain ⟨ox, od, J, hx⟩ := inst_at I h1
          obtain ⟨M1, _⟩ := lk.mth c m j ej
          rw [hm] at M1
          have ty := ty_b S qx et nd
          rw [← hK] at ty
          have ti := ty.is I rx
          have oc := os.c c hc1
          have isn : ∀ n : Nat, n < 7 → PySem.W.Looks (model X.prog X.w) s.heap (isInstance (.ref a) (.type (tyN n))) false := fun n hn => J.type.andThen (PySem.W.looks_mroIn I.kIn (oc.isn n hn))
          have call : wpAny (model X.prog X.w) X.A (PySem.call (.ref (R.fA j)) [.ref a, v]) (PySem.W.CmpBack (EP X pins sg Q)) X.xe s := by
            refine wpAny_mono (run_under (A := X.A) (us := [.ref a, v]) (vs := [.ref a, x]) lk fs h0 rfl I (.cons rfl (.cons rx .nil)) S (RepVs.cons qy (RepVs.cons qx (by simp only [RepVs]))) (ownRes_good g)) (fun r s' z => ?_) fun _ _ e => e
            obtain ⟨t, rfl, z2⟩ := back_bl (Q := Q) (neg := false) z
            rw [Bool.bne_false] at z2
            exact z2
          show wpAny (model X.prog X.w) X.A (richCompare .Eq v (.ref a)) (EP X pins sg Q) X.xe s
          have fin : ∀ (id : String), Slot (tyN n) (cmpInfo .Eq).2.1 id → (∀ Q' : Value → Shared → Prop, Q' .notImplemented s → wpAny (model X.prog X.w) X.A (PySem.call (.builtin id) [v, .ref a]) Q' X.xe s) → wpAny (model X.prog X.w) X.A (richCompare .Eq v (.ref a)) (EP X pins sg Q) X.xe s :=
            fun id sl hd => eq_back hu ti I.kIn J (oc.sub n hn) sl hd M1.at_ M1.fn call
          obtain ⟨hp, gg, dd, tk, os1⟩ := s
          have nb : tyN n ≠ "bytes" := by
            match n, hn with
            | 0, _ => decide
            | 1, _ => decide
            | 2, _ => decide
            | 3, _ => decide
            | 4, _ => decide
            | 5, _ => decide
            | 6, _ => decide
          clear et
          revert ty ti fin nb
          generalize tyN n = T0
          intro ty ti fin nb
          cases ty with
          | int i =>
            obtain ⟨t, rfl⟩ := (show ∃ t, v = Value.int i t from rx)
            exact fin _ PySem.F.slot_int_eq fun Q' q => GQ.call_here PySem.F.slot_int_eq ti PySem.F.entry_int_eq (PySem.F.args_int_eq_2 _ _) (dec_int hx q)
          | bl i =>
            cases (show v = Value.bool i from rx)
            exact fin _ PySem.F.slot_bool_eq fun Q' q => GQ.call_here PySem.F.slot_bool_eq ti PySem.F.entry_int_eq (PySem.F.args_int_eq_2 _ _) (dec_bool hx q)
          | str i =>
            obtain ⟨t, rfl⟩ := (show ∃ t, v = Value.str i t from rx)
            exact fin _ PySem.F.slot_str_eq fun Q' q => GQ.call_here PySem.F.slot_str_eq ti PySem.F.entry_str_eq (PySem.F.args_str_eq_2 _ _) (dec_str hx q)
          | byt i => exact absurd rfl nb
          | tup h =>
            cases rx
            exact fin _ PySem.F.slot_tuple_eq fun Q' q => GQ.call_here PySem.F.slot_tuple_eq ti PySem.F.entry_tuple_eq (PySem.F.args_tuple_eq_2 _ _) (dec_tuple (isn 3 (by decide)) q)
          | lst h =>
            cases rx
            exact fin _ PySem.F.slot_list_eq fun Q' q => GQ.call_here PySem.F.slot_list_eq ti PySem.F.entry_list_eq (PySem.F.args_list_eq_2 _ _) (dec_list (isn 4 (by decide)) q)
          | dK h =>
            cases rx
            exact fin _ PySem.F.slot_dict_eq fun Q' q => GQ.call_here PySem.F.slot_dict_eq ti PySem.F.entry_dict_eq (PySem.F.args_dict_eq_2 _ _) (dec_dict (isn 5 (by decide)) q)
          | non =>
            cases (show v = Value.none from rx)
            exact fin _ PySem.F.slot_NoneType_eq fun Q' q => GQ.call_here PySem.F.slot_NoneType_eq ti PySem.F.entry_NoneType_eq (PySem.F.args_NoneType_eq_2 _ _) (dec_none q)
        · exact g.elim
      · exact g.elim
    · rename_i ec2
      exact or_eq (by have := hr.un; omega) pins s sg H x y v u Q I rx ry (by rw [hK]; exact snd_eq rho st H px py x y _ Q S qx qy g)
end
end OL
set_option maxRecDepth 100000
set_option maxHeartbeats 0
namespace OL
open PySem PySem.Spec PyProof.Rows L2
section
variable {R : RC} {b : Tb} {mN : Nat → Str} {fD : Nat → FuncData} {T : List FnI} {X : Cx} {k : Nat} {md : Md} {own : Nat → Bool} {m : Nat}
theorem op_cmpN (hK : X.K = R.K) (lk : Lnk R b mN fD T X.K) (fs : Fns md R fD T X.prog X.w X.K X.mg X.base k) (hr : RoomG md.isHot (6 * k + hb md + 1) X.A) (os : OwnS R own X.K) (hm : mN m = "__eq__") :
    OpR X (compareOp .NotEq) (rCmp R own b m true (callK T k)) := by
  intro pins s sg H x y v u Q I rx ry ⟨rho, st, px, py, S, qx, qy, g⟩
  have hu : X.A.units < cLine := hr.units0
  have h0 : RoomG md.isHot (6 * k + hb md) X.A.in1 := room1 hr
  unfold cmpO at g
  split at g
  · rename_i c ec
    split at g
    · rename_i j t ej et
      split at g
      · rename_i hc
        simp only [Bool.and_eq_true] at hc
        obtain ⟨a, dx, ks, vs, ev, h1, _⟩ := clsOf_ok S qx ec
        subst ev
        cases rx
        obtain ⟨ox, od, J, _⟩ := inst_at I h1
        obtain ⟨tb, ht, hn⟩ := ty_look (c := c) hK os hc.1.1 I S qy ry et hc.1.2 hc.2
        obtain ⟨M1, _⟩ := lk.mth c m j ej
        rw [hm] at M1
        have oc := os.c c hc.1.1
        show wpAny (model X.prog X.w) X.A (richCompare .NotEq (.ref a) u) (EP X pins sg Q) X.xe s
        refine ne_K hu h0.units0 I.kIn J ht hn oc.ob oc.ne M1.at_ M1.fn ?_
        refine wpAny_mono (run_under (A := X.A.in1) (us := [.ref a, u]) (vs := [.ref a, y]) lk fs h0 rfl I (.cons rfl (.cons ry .nil)) S (RepVs.cons qx (RepVs.cons qy (by simp only [RepVs]))) (ownRes_good g)) (fun r s' z => ?_) fun _ _ e => e
        obtain ⟨t, rfl, z2⟩ := back_bl (Q := Q) (neg := true) z
        rw [Bool.bne_true] at z2
        exact ⟨t, rfl, z2⟩
      · exact g.elim
    · exact g.elim
  · rename_i ec
    split at g
    · split at g
      · split at g
        · rename_i hc
          simp only [Bool.not_true, Bool.and_false, Bool.false_and, Bool.false_eq_true] at hc
        · exact g.elim
      · exact g.elim
    · exact or_ne (by have := hr.un; omega) pins s sg H x y v u Q I rx ry (by rw [hK]; exact snd_ne rho st H px py x y _ Q S qx qy g)
/-! ### str, repr, bool of an instance -/
/-- the answer of an own __str__ or __repr__ -/
def strRes (r : Res PV) : Res PV := match r with
  | .ok (.str z) s => .ok (.str z) s
  | _ => .bad
theorem strRes_good {rho : Rho} {H : Hp} {Wx : Value → Option Addr → Hp → Prop} {Q : VK} {r : Res PV} (g : Good R (RepV R) rho H (strRes r) Wx Q) : Good R (RepV R) rho H r (fun _ _ _ => False) (fun z H' => ∃ t, z = .str t ∧ Q (.str t) H') := by
  unfold strRes at g
  split at g
  · rename_i t s
    intro rho' H' z M S rz
    simp only [RepV] at rz
    subst rz
    exact ⟨t, rfl, g rho' H' _ M S (by simp only [RepV])⟩
  · exact g.elim
theorem back_str {pins : List (Addr × Obj)} {sg : L2.St} {Q : VK} {v : Value} {s' : Shared} (h : EP X pins sg (fun z H' => ∃ t, z = .str t ∧ Q (.str t) H') v s') : ∃ y t, v = .str y t ∧ EP X pins sg Q v s' := by
  obtain ⟨z, H', I', rz, t, rfl, q⟩ := h
  obtain ⟨tk, rfl⟩ := (show ∃ tk, v = Value.str t tk from rz)
  exact ⟨t, tk, rfl, .str t, H', I', ⟨tk, rfl⟩, q⟩
/-- str(x), repr(x): by an own method where x is an instance -/
def bOwn (own : Nat → Bool) (b : Tb) (m : Nat) (o : OpN) (F : CallT) : OpN := fun xs st => match xs with
  | [x] => (match clsOf st x with
    | some c => (match b.mt c m with
      | some j => if own c then strRes (F j [x] st) else .bad
      | none => .bad)
    | none => o [x] st)
  | _ => .bad
def rOwn (R : RC) (own : Nat → Bool) (b : Tb) (m : Nat) (o : OpN) (F : CallT) : List V → Hp → VK → Prop := fun vs H Q =>
  ∃ rho st xs Wx, StRep R rho st H ∧ RepVs R rho H xs vs ∧ Good R (RepV R) rho H (bOwn own b m o F xs st) Wx Q
theorem snd_own {own : Nat → Bool} {o : OpN} {F : CallT} : OpNSnd R (bOwn own b m o F) (rOwn R own b m o F) := fun rho st H xs vs Wx Q S r g => ⟨rho, st, xs, Wx, S, r, g⟩
theorem call_reprO {r : List V → Hp → VK → Prop} {o : OpN} (lk : Lnk R b mN fD T X.K) (fs : Fns md R fD T X.prog X.w X.K X.mg X.base k) (hr : RoomG md.isHot (6 * k + hb md + 1) X.A) (os : OwnS R own X.K) (hm : mN m = "__repr__")
    (ho : CallR X (.builtin "repr") r) (hs : OpNSnd R o r) : CallR X (.builtin "repr") (rOwn R own b m o (callK T k)) := by
  intro pins s sg H xs us Q I rv ⟨rho, st, ps, Wx, S, rp, g⟩
  unfold bOwn at g
  split at g
  · rename_i x
    obtain ⟨v, rfl, q1⟩ := rep1 rp
    split at g
    · rename_i c ec
      split at g
      · rename_i j ej
        split at g
        · rename_i hc
          obtain ⟨a, dx, ks, vs, ev, h1, _⟩ := clsOf_ok S q1 ec
          subst ev
          cases rv with
          | cons ru rn =>
            cases ru
            cases rn
            obtain ⟨ox, od, J, _⟩ := inst_at I h1
            obtain ⟨M1, _⟩ := lk.mth c m j ej
            rw [hm] at M1
            obtain ⟨mm, hF⟩ := I.fr
            refine PySem.W.repr_K (room1 hr).units0 hF I.ok.mod.kin J M1.at_ M1.fn ?_
            refine wpAny_mono (run_under (A := X.A.in1) (us := [.ref a]) (vs := [.ref a]) lk fs (room1 hr) rfl I (.cons rfl .nil) S rp (strRes_good g)) (fun r s' z => ?_) fun _ _ e => e
            obtain ⟨y, t, rfl, z2⟩ := back_str z
            exact z2
        · exact g.elim
      · exact g.elim
    · exact ho pins s sg H _ us Q I rv (hs rho st H _ _ Wx Q S rp g)
  · exact g.elim
theorem call_strO {r : List V → Hp → VK → Prop} {o : OpN} (lk : Lnk R b mN fD T X.K) (fs : Fns md R fD T X.prog X.w X.K X.mg X.base k) (hr : RoomG md.isHot (6 * k + hb md + 2) X.A) (os : OwnS R own X.K) (hm : mN m = "__str__")
    (ho : CallR X (.type "str") r) (hs : OpNSnd R o r) : CallR X (.type "str") (rOwn R own b m o (callK T k)) := by
  intro pins s sg H xs us Q I rv ⟨rho, st, ps, Wx, S, rp, g⟩
  unfold bOwn at g
  split at g
  · rename_i x
    obtain ⟨v, rfl, q1⟩ := rep1 rp
    split at g
    · rename_i c ec
      split at g
      · rename_i j ej
        split at g
        · rename_i hc
          obtain ⟨a, dx, ks, vs, ev, h1, _⟩ := clsOf_ok S q1 ec
          subst ev
          cases rv with
          | cons ru rn =>
            cases ru
            cases rn
            obtain ⟨ox, od, J, _⟩ := inst_at I h1
            obtain ⟨M1, _⟩ := lk.mth c m j ej
            rw [hm] at M1
            have h2 : RoomG md.isHot (6 * k + hb md) X.A.in1.in1 := room1 (room1 hr)
            refine PySem.W.kso_call h2.units0 I.kIn J M1.at_ M1.fn ?_
            refine wpAny_mono (run_under (A := X.A.in1.in1) (us := [.ref a]) (vs := [.ref a]) lk fs h2 rfl I (.cons rfl .nil) S rp (strRes_good g)) (fun r s' z => ?_) fun _ _ e => e
            obtain ⟨y, t, rfl, z2⟩ := back_str z
            exact z2
        · exact g.elim
      · exact g.elim
    · exact ho pins s sg H _ us Q I rv (hs rho st H _ _ Wx Q S rp g)
  · exact g.elim
end
end OL
set_option maxRecDepth 100000
set_option maxHeartbeats 0
/-! ## bool of an instance -/
namespace OL
open PySem PySem.W PySem.Spec PySem.Calls PyProof.Rows
section
variable {prog : Program} {w : World} {M : Model} {A : Around} {E : Value → Shared → Prop} {s : Shared} {K : Frag} {x C : Addr} {ox : Obj} {od : Option Obj}
theorem truthy_I {Q : Bool → Shared → Prop} (X : K.In s.heap) (I : InstAt s.heap x ox C od) (hs : findIn K (.ref C) "__bool__" = some none) (hl : findIn K (.ref C) "__len__" = some none) (h : Q true s) : wpAny M A (truthy (.ref x)) Q E s := by
  unfold truthy
  refine wpAny_bind (m := callSpecial? (.ref x) (Str.ofString "__bool__")) (wpAny_bind (wpAny_bind (I.type.here ((looks_findIn X hs).here (wpAny_pure ?_)))))
  exact wpAny_bind (wpAny_bind (I.type.here ((looks_findIn X hl).here (wpAny_pure h))))
end
end OL
namespace OL
open PySem PySem.Spec PyProof.Rows
open PySem.Sem (wp)
theorem meets_bool_inst {K : W.Frag} {x C : Addr} (hs : W.findIn K (.ref C) "__bool__" = some none) (hl : W.findIn K (.ref C) "__len__" = some none) :
    Meets (Builtin.«bool.__new__» ⟨[.type "bool", .ref x], []⟩) (fun _ R s => (K.In s.heap ∧ ∃ ox od, W.InstAt s.heap x ox C od) ∧ R (.ok (.ret (.bool true))) s) :=
  Meets.of_wp fun prog w A R s z => by
    obtain ⟨⟨X, ox, od, I⟩, z⟩ := z
    obtain ⟨hp, g, d, tk, os⟩ := s
    have f1 := F.conv_sub_bool
    repeat (any_goals (first | assumption | (with_reducible refine truthy_I X I hs hl ?_) | wp_step))
    all_goals first | exact ⟨_, rfl, z⟩ | exact z | skip
end OL
namespace OL
open PySem PySem.Spec PyProof.Rows L2
section
variable {R : RC} {b : Tb} {mN : Nat → Str} {fD : Nat → FuncData} {T : List FnI} {X : Cx} {k : Nat} {md : Md} {own : Nat → Bool} {m : Nat}
/-- bool(x): ints, truth values, instances -/
def bBoolO (own : Nat → Bool) : OpN
  | [.int i], st => .ok (.bl (i != 0)) st
  | [.bl k], st => .ok (.bl k) st
  | [x], st => (match clsOf st x with
    | some c => if own c then .ok (.bl true) st else .bad
    | none => .bad)
  | _, _ => .bad
def rBool (R : RC) (own : Nat → Bool) : List V → Hp → VK → Prop := fun vs H Q =>
  ∃ rho st xs Wx, StRep R rho st H ∧ RepVs R rho H xs vs ∧ Good R (RepV R) rho H (bBoolO own xs st) Wx Q
theorem snd_bool : OpNSnd R (bBoolO own) (rBool R own) := fun rho st H xs vs Wx Q S r g => ⟨rho, st, xs, Wx, S, r, g⟩
theorem call_boolO (os : OwnS R own X.K) : CallR X (.type "bool") (rBool R own) := by
  intro pins s sg H xs us Q I rv ⟨rho, st, ps, Wx, S, rp, g⟩
  unfold bBoolO at g
  split at g
  · obtain ⟨v, rfl, q1⟩ := rep1 rp
    simp only [RepV] at q1
    subst q1
    exact call_bool1 pins s sg H _ us Q I rv (.inl ⟨_, rfl, fin_b S g⟩)
  · obtain ⟨v, rfl, q1⟩ := rep1 rp
    simp only [RepV] at q1
    subst q1
    exact call_bool1 pins s sg H _ us Q I rv (.inr ⟨_, rfl, fin_b S g⟩)
  · rename_i x _ _
    obtain ⟨v, rfl, q1⟩ := rep1 rp
    split at g
    · rename_i c ec
      split at g
      · rename_i hc
        obtain ⟨a, dx, ks, vs, ev, h1, _⟩ := clsOf_ok S q1 ec
        subst ev
        cases rv with
        | cons ru rn =>
          cases ru
          cases rn
          obtain ⟨ox, od, J, _⟩ := inst_at I h1
          have oc := os.c c hc
          exact call_bool_1 (meets_bool_inst oc.bo oc.ln) ⟨⟨I.kIn, ox, od, J⟩, rfl, .bl true, H, I, rfl, fin_b S g⟩
      · exact g.elim
    · exact g.elim
  · exact g.elim
end
end OL
set_option maxRecDepth 100000
set_option maxHeartbeats 0
/-! ## methods and classmethods, by position and by name -/
namespace OL
open PySem PySem.Spec
open PyProof.Rows L2 ClX
/-- C.m is a classmethod whose def stands at f -/
structure CmOk (K : PySem.W.Frag) (C : Addr) (m : Str) (f : Addr) : Prop where
  ex : ∃ mc p, CRead K C mc ∧ CMet K C mc m p f
/-- the def that x.m names -/
def mtOf (b : Tb) (cm : Nat → Nat → Option Nat) (i : Nat) (s : Sto) : PV → Option Nat
  | .cls c => cm c i
  | x => (clsOf s x).bind fun c => b.mt c i
def callSel (j : Nat) (x : PV) (sel : List Sel) (F : CallT) (xs : List PV) (s : Sto) : Res PV := match pick (x :: xs) sel with
  | some ys => F j ys s
  | none => .bad
/-- x.m(e, .., k = v, ..) -/
def dMethK (b : Tb) (cm : Nat → Nat → Option Nat) (sg : Nat → Option (List Str × List PV)) (i : Nat) (o : D PV) (as bs : List (D PV)) (nm : List Str) : D PV := fun F e st => (o F e st).bnd fun x s => match mtOf b cm i s x with
  | some j => (match sg j with
    | some (ps, dfl) => if allOk ps nm (as.length + 1) dfl.length then (dArgs (as ++ bs) F e s).bnd fun xs s1 => callSel j x (selOf ps nm (as.length + 1) dfl) F xs s1 else .bad
    | none => .bad)
  | none => .bad
section
variable {R : RC} {b : Tb} {mN : Nat → Str} {fD : Nat → FuncData} {T : List FnI} {W : WX} {X : Cx} {k : Nat} {md : Md}
theorem run_met {j : Nat} {q C : Addr} {pins : List (Addr × Obj)} {sg : L2.St} {H : Hp} {s : Shared} {Q : VK} {us ws : List Value} {kw : List (Str × Value)} {vs : List V} {fi : FnI} {sp : Sp} (F : FnG md X.prog X.w X.K X.mg X.base (6 * k + hb md) (R.fA j) (fD j) fi.ps sp) (hr : RoomG md.isHot (6 * k + hb md) X.A) (tk : Takesm md.nc X W)
    (hb : BindsTo s (fD j) ⟨.ref C :: us, kw⟩ (fi.ps.zip ws)) (I : Inv X ((q, PySem.W.methodObj (.ref (R.fA j)) (.ref C)) :: pins) sg H s) (r : Vals vs ws) (h : sp vs H Q (fun cls d H' => W cls d sg H')) :
    wpAny (model X.prog X.w) X.A (call (.ref q) us kw) (EP X pins sg Q) X.xe s := by
  have z : wpAny (model X.prog X.w) X.A (call (.ref q) us kw) (EP X ((q, PySem.W.methodObj (.ref (R.fA j)) (.ref C)) :: pins) sg Q) X.xe s := by
    refine wpAny_call (PySem.W.method_call (pos := us) (kw := kw) (pin_at I) (codeAny_mono (F.run X.A X.stack s H ⟨.ref C :: us, kw⟩ ws vs Q _ hr I.env0 hb r h) fun r s' hq => ?_))
    have y := back_g tk I r s' hq
    cases r with
    | error e => exact y
    | ok fl => cases fl with
      | ret u => exact y
      | next => exact y
      | brk => exact y
      | cont => exact y
  exact thn z fun _ _ y => unpinE y
section
variable {j : Nat} {m : Str} {pos : Pos} {es : List Expr} {kws : List Keyword} {as bs : List (D PV)} {fi : FnI} {sel : List Sel} {pl : Sem Bool} {pins : List (Addr × Obj)} {sg : L2.St} {H1 : Hp} {s1 : Shared} {Q : VK} {x : PV}
/-- the class is there -/
theorem cls_met {c : Nat} (fs : Fns md R fD T X.prog X.w X.K X.mg X.base k) (hr : RoomG md.isHot (6 * k + hb md) X.A) (tk : Takesm md.nc X W)
    (cm : CmOk X.K (R.cA c) m (R.fA j)) (hj : T[j]? = some fi) (hsh : ShapeOk X.K (fD j) fi.ps (as.length + 1) (kwNames kws) sel) (hfl : sel.all flatSel = true) (hsl : sel.length = fi.ps.length)
    (ha : PA X es (tL R (callK T k) W (dArgs as))) (hb : PK X kws (tL R (callK T k) W (dArgs bs))) (hkw : kwOk kws = true) (hbl : kws.length = bs.length) (hel : es.length = as.length)
    (hst : ∀ e r, es = e :: r → starEach es X.env = (false, eval e X.env) :: starEach r X.env) (hpl : (backTo pos (starEach es X.env)).any (·.1) = false) (I1 : Inv X pins sg H1 s1)
    (q : ∃ rho st env, EnvRep R rho H1 env sg ∧ StRep R rho st H1 ∧ Good R (RepV R) rho H1 ((dArgs (as ++ bs) (callK T k) env st).bnd fun xs s => callSel j (.cls c) sel (callK T k) xs s) (fun cls d H' => W cls d sg H') Q) :
    wpAny (model X.prog X.w) X.A (getMethod (.ref (R.cA c)) m pl) (fun fx s₂ => wpAny (model X.prog X.w) X.A (callWith pos fx.1 fx.2 (backTo pos (starEach es X.env)) (backToKw pos (keywordEach kws X.env))) (EP X pins sg Q) X.xe s₂) X.xe s1 := by
  obtain ⟨mc, p, rd, ct⟩ := cm.ex
  refine getmethcm_ok I1 rd ct fun s2 I2 => ?_
  have h2 := tl_kw q
  obtain ⟨k1, k2, k3⟩ := kw_all (env := X.env) (pos := pos) hkw
  generalize hqq : s1.heap.objs.size = q0 at *
  have fin : ∀ {us ws : List Value} {vs zs : List V} {s3 : Shared} {H3 : Hp}, Inv X ((q0, PySem.W.methodObj (.ref (R.fA j)) (.ref (R.cA c))) :: pins) sg H3 s3 → Vals vs us → Vals zs ws → vs.length = as.length → zs.length = bs.length →
      (∃ rho st xs, StRep R rho st H3 ∧ RepVs R rho H3 xs (vs ++ zs) ∧ Good R (RepV R) rho H3 (callSel j (.cls c) sel (callK T k) xs st) (fun cls d H' => W cls d sg H') Q) → wpAny (model X.prog X.w) X.A (call (.ref q0) us ((kwNames kws).zip ws)) (EP X pins sg Q) X.xe s3 := by
    intro us ws vs zs s3 H3 I3 r1 r2 l1 l2 ⟨rho, st, xs, S, rx, g⟩
    unfold callSel at g
    split at g
    · rename_i ys ep
      have rc : RepVs R rho H3 (.cls c :: xs) (.ref (R.cA c) :: (vs ++ zs)) := RepVs.cons (by simp only [RepV]) rx
      obtain ⟨zv, hbind, hv⟩ := hsh s3 (.ref (R.cA c) :: us) ws (.ref (R.cA c) :: (vs ++ zs)) I3.kIn (by simp [← r1.length, l1]) (by rw [← r2.length, l2, kwNames_len hkw, hbl]) (.cons rfl (r1.append r2))
      have ry := pick_ok rc hfl ep
      exact run_met (fs j fi hj) hr tk hbind I3 hv ⟨by rw [List.length_map, hsl], rho, st, ys, S, ry, g⟩
    · exact g.elim
  cases es with
  | nil =>
    obtain rfl : as = [] := List.length_eq_zero_iff.mp hel.symm
    have h3 := te_argsNil _ h2
    obtain ⟨_, q3⟩ : ([] : List V).length = 0 ∧ _ := h3
    refine PySem.W.callWith_of (by rw [show ((backTo pos (starEach [] X.env)).any (·.1)) = false from rfl, k2]; rfl) (PySem.W.keeps_M (self := .ref (R.cA c)) ct.fi) (evalArgs_kw2_nil k1 ?_)
    refine thn (hb.run pos _ s2 sg H1 _ I2 q3) fun ws s3 ⟨zs, H3, I3, r2, l2, q4⟩ => ⟨⟨pin_at I3, I3.kIn⟩, ?_⟩
    rw [k3]
    exact fin (us := []) (vs := []) I3 .nil r2 rfl l2 q4
  | cons e r =>
    refine PySem.W.callWith_of (by rw [hpl, k2]; rfl) (PySem.W.keeps_M (self := .ref (R.cA c)) ct.fi) (evalArgs_kw2 k1 (thn (ha.run pos _ s2 sg H1 _ I2 h2) fun us s3 ⟨vs, H3, I3, r1, l1, q3⟩ => ?_) (hst e r rfl))
    refine thn (hb.run pos _ s3 sg H3 _ I3 q3) fun ws s4 ⟨zs, H4, I4, r2, l2, q4⟩ => ⟨⟨pin_at I4, I4.kIn⟩, ?_⟩
    rw [k3]
    exact fin I4 r1 r2 l1 l2 q4
/-- .. an instance -/
theorem ins_met {c i : Nat} {v : V} {u : Value} {rho : Rho} {st : Sto} {env : LEnv} (lk : Lnk R b mN fD T X.K) (fs : Fns md R fD T X.prog X.w X.K X.mg X.base k) (hr : RoomG md.isHot (6 * k + hb md) X.A) (tk : Takesm md.nc X W)
    (ej : b.mt c i = some j) (hj : T[j]? = some fi) (hsh : ShapeOk X.K (fD j) fi.ps (as.length + 1) (kwNames kws) sel) (hfl : sel.all flatSel = true) (hsl : sel.length = fi.ps.length)
    (ha : PA X es (tL R (callK T k) W (dArgs as))) (hb : PK X kws (tL R (callK T k) W (dArgs bs))) (hkw : kwOk kws = true) (hbl : kws.length = bs.length) (hel : es.length = as.length)
    (hst : ∀ e r, es = e :: r → starEach es X.env = (false, eval e X.env) :: starEach r X.env) (hpl : (backTo pos (starEach es X.env)).any (·.1) = false) (I1 : Inv X pins sg H1 s1)
    (ec : clsOf st x = some c) (rv : RelV v u) (rx : RepV R rho H1 x v) (hE : EnvRep R rho H1 env sg) (hS : StRep R rho st H1)
    (g : Good R (RepV R) rho H1 ((dArgs (as ++ bs) (callK T k) env st).bnd fun xs s => callSel j x sel (callK T k) xs s) (fun cls d H' => W cls d sg H') Q) :
    wpAny (model X.prog X.w) X.A (getMethod u (mN i) pl) (fun fx s₂ => wpAny (model X.prog X.w) X.A (callWith pos fx.1 fx.2 (backTo pos (starEach es X.env)) (backToKw pos (keywordEach kws X.env))) (EP X pins sg Q) X.xe s₂) X.xe s1 := by
  obtain ⟨a, dx, fks, fvs, e1, h1, xs, h2, h3, h4⟩ := clsOf_ok hS rx ec
  subst e1
  obtain rfl : u = Value.ref a := rv
  obtain ⟨hm, hc⟩ := lk.mth c i j ej
  refine getmeth_ok I1 h1 hc hm (lookup_dis fun k => lk.dis i k) ?_
  obtain ⟨k1, k2, k3⟩ := kw_all (env := X.env) (pos := pos) hkw
  -- x stands for the same value behind the arguments
  have h2 : tL R (callK T k) W (dArgs as) sg H1 (fun vs H1 => vs.length = as.length ∧ tL R (callK T k) W (dArgs bs) sg H1 fun zs H2 => zs.length = bs.length ∧ ∃ rho st xs, StRep R rho st H2 ∧ RepVs R rho H2 xs (vs ++ zs) ∧ RepV R rho H2 x (.ref a) ∧ Good R (RepV R) rho H2 (callSel j x sel (callK T k) xs st) (fun cls d H' => W cls d sg H') Q) := by
    rw [dArgs_app, bnd_assoc] at g
    refine ⟨rho, st, env, hE, hS, ?_⟩
    cases ea : dArgs as (callK T k) env st with
    | bad => rw [ea] at g; exact g
    | exc _ _ _ _ => rw [ea] at g; exact g
    | ok xs s1 =>
      rw [ea] at g
      simp only [Res.bnd] at g
      refine fun rho1 H1 vs M1 S1 r1 => ⟨by rw [← r1.length, args_len ea], rho1, s1, env, hE.mono M1, S1, ?_⟩
      have g := Good.shift M1 g
      cases eb : dArgs bs (callK T k) env s1 with
      | bad => rw [eb] at g; exact g
      | exc _ _ _ _ => rw [eb] at g; exact g
      | ok ys s2 =>
        rw [eb] at g
        exact fun rho2 H2 zs M2 S2 r2 => ⟨by rw [← r2.length, args_len eb], rho2, s2, xs ++ ys, S2, (r1.mono M2).append r2, (rx.mono M1).mono M2, Good.shift M2 g⟩
  have fin : ∀ {us ws : List Value} {vs zs : List V} {s3 : Shared} {H3 : Hp}, Inv X pins sg H3 s3 → Vals vs us → Vals zs ws → vs.length = as.length → zs.length = bs.length →
      (∃ rho st xs, StRep R rho st H3 ∧ RepVs R rho H3 xs (vs ++ zs) ∧ RepV R rho H3 x (.ref a) ∧ Good R (RepV R) rho H3 (callSel j x sel (callK T k) xs st) (fun cls d H' => W cls d sg H') Q) → wpAny (model X.prog X.w) X.A (call (.ref (R.fA j)) ([.ref a] ++ us) ((kwNames kws).zip ws)) (EP X pins sg Q) X.xe s3 := by
    intro us ws vs zs s3 H3 I3 r1 r2 l1 l2 ⟨rho, st, xs, S, rx, ra, g⟩
    unfold callSel at g
    split at g
    · rename_i ys ep
      have rc : RepVs R rho H3 (x :: xs) (.ref a :: (vs ++ zs)) := RepVs.cons ra rx
      obtain ⟨zv, hbind, hv⟩ := hsh s3 (.ref a :: us) ws (.ref a :: (vs ++ zs)) I3.kIn (by simp [← r1.length, l1]) (by rw [← r2.length, l2, kwNames_len hkw, hbl]) (.cons rfl (r1.append r2))
      have ry := pick_ok rc hfl ep
      exact run_g (fs j fi hj) hr tk hbind I3 hv ⟨by rw [List.length_map, hsl], rho, st, ys, S, ry, g⟩
    · exact g.elim
  cases es with
  | nil =>
    obtain rfl : as = [] := List.length_eq_zero_iff.mp hel.symm
    have h3 := te_argsNil _ h2
    obtain ⟨_, q⟩ : ([] : List V).length = 0 ∧ _ := h3
    refine PySem.W.callWith_KW0 (first := [.ref a]) (h₀ := X.base) I1.ok.mod.kin hm.kp k1 ?_ (by rw [k2]; rfl)
    refine thn (hb.run pos pins s1 sg H1 _ I1 q) fun ws s2 ⟨zs, H2, I2, r2, l2, q2⟩ => ⟨I2.kIn, ?_⟩
    rw [k3]
    exact fin (us := []) (vs := []) I2 .nil r2 rfl l2 q2
  | cons e r =>
    refine PySem.W.callWith_KW (first := [.ref a]) (h₀ := X.base) I1.ok.mod.kin hm.kp k1 (thn (ha.run pos pins s1 sg H1 _ I1 h2) fun us s1 ⟨vs, H1, I1, r1, l1, q⟩ => ?_) (by rw [hpl, k2]; rfl) (hst e r rfl)
    refine thn (hb.run pos pins s1 sg H1 _ I1 q) fun ws s2 ⟨zs, H2, I2, r2, l2, q2⟩ => ⟨I2.kIn, ?_⟩
    rw [k3]
    exact fin I2 r1 r2 l1 l2 q2
end
theorem pe_methKG {i : Nat} {o : Expr} {apos pos : Pos} {es : List Expr} {kws : List Keyword} {mo : D PV} {as bs : List (D PV)} {pl : Sem Bool} {cm : Nat → Nat → Option Nat} {sgf : Nat → Option (List Str × List PV)} (lk : Lnk R b mN fD T X.K) (fs : Fns md R fD T X.prog X.w X.K X.mg X.base k) (hr : RoomG md.isHot (6 * k + hb md) X.A) (tk : Takesm md.nc X W)
    (hcm : ∀ c j, cm c i = some j → CmOk X.K (R.cA c) (mN i) (R.fA j))
    (hsg : ∀ j ps dfl, sgf j = some (ps, dfl) → ∃ fi, T[j]? = some fi ∧ fi.ps = ps ∧ dfl.all flatB = true ∧ ∀ ks n, allOk ps ks n dfl.length = true → ShapeOk X.K (fD j) ps n ks (selOf ps ks n dfl))
    (ho : PE X o (tE R (callK T k) W mo)) (ha : PA X es (tL R (callK T k) W (dArgs as))) (hb : PK X kws (tL R (callK T k) W (dArgs bs))) (hkw : kwOk kws = true) (hbl : kws.length = bs.length) (hel : es.length = as.length)
    (hst : ∀ e r, es = e :: r → starEach es X.env = (false, eval e X.env) :: starEach r X.env) (hpl : (backTo pos (starEach es X.env)).any (·.1) = false)
    (ht : eval (.Call (.Attribute o (mN i) apos) es kws pos) X.env = (do
      let ov ← eval o X.env
      standAt apos.atName
      let (f, first) ← holding [ov] (getMethod ov (mN i) pl)
      callWith pos f first (backTo pos (starEach es X.env)) (backToKw pos (keywordEach kws X.env)))) :
    PE X (.Call (.Attribute o (mN i) apos) es kws pos) (tE R (callK T k) W (dMethK b cm sgf i mo as bs (kwNames kws))) := by
  refine ⟨fun pins s sg H Q I ⟨rho, st, env, hE, hS, g⟩ => ?_⟩
  refine PySem.W.methodCall_KW (pl := pl) (thn (ho.run pins s sg H _ I ⟨rho, st, env, hE, hS, Good.bnd g⟩) fun u s1 ⟨v, H1, I1, rv, q⟩ => ?_) ht
  obtain ⟨rho1, st1, x, M1, S1, r1, g1⟩ := q
  split at g1
  · rename_i j ej
    split at g1
    · rename_i ps dfl es1
      split at g1
      · rename_i hok
        obtain ⟨fi, q1, q2, q3, q4⟩ := hsg j ps dfl es1
        subst q2
        have sf := sel_flat (ps := fi.ps) (ks := kwNames kws) (n := as.length + 1) q3
        have sl : (selOf fi.ps (kwNames kws) (as.length + 1) dfl).length = fi.ps.length := by unfold selOf; simp
        have insR : ∀ c, clsOf st1 x = some c → b.mt c i = some j → wpAny (model X.prog X.w) X.A (getMethod u (mN i) pl) (fun fx s₂ => wpAny (model X.prog X.w) X.A (callWith pos fx.1 fx.2 (backTo pos (starEach es X.env)) (backToKw pos (keywordEach kws X.env))) (EP X pins sg Q) X.xe s₂) X.xe s1 := fun c ec em =>
          ins_met lk fs hr tk em q1 (q4 _ _ hok) sf sl ha hb hkw hbl hel hst hpl I1 ec rv r1 (hE.mono M1) S1 g1
        cases x with
        | cls c =>
          simp only [RepV] at r1
          subst r1
          obtain rfl : u = Value.ref (R.cA c) := rv
          exact cls_met fs hr tk (hcm c j ej) q1 (q4 _ _ hok) sf sl ha hb hkw hbl hel hst hpl I1 ⟨rho1, st1, env, hE.mono M1, S1, g1⟩
        | iv c ks vs =>
          simp only [mtOf] at ej
          obtain ⟨c', e1, e2⟩ := Option.bind_eq_some_iff.mp ej
          exact insR c' e1 e2
        | obj n =>
          simp only [mtOf] at ej
          obtain ⟨c', e1, e2⟩ := Option.bind_eq_some_iff.mp ej
          exact insR c' e1 e2
        | _ => cases ej
      · exact g1.elim
    · exact g1.elim
  · exact g1.elim
end
end OL
set_option maxRecDepth 100000
set_option maxHeartbeats 0
/-! ## a class that a local holds is called -/
namespace OL
open PySem PySem.Spec
open PyProof.Rows L2
def newSel (mt : Bool) (c j : Nat) (sel : List Sel) (F : CallT) (xs : List PV) (s : Sto) : Res PV := match pick xs sel with
  | some ys => mkIns mt c j F ys s
  | none => .bad
def dNewV (mt : Bool) (ini : Nat → Option Nat) (sg : Nat → Option (List Str × List PV)) (o : D PV) (as bs : List (D PV)) (nm : List Str) : D PV := fun F e st => (o F e st).bnd fun x s => match x with
  | .cls c => (match ini c with
    | some j => (match sg j with
      | some (ps, dfl) => if allOk ps nm (as.length + 1) dfl.length then (match selNew ps nm as.length dfl with
        | some sel => (dArgs (as ++ bs) F e s).bnd fun xs s1 => newSel mt c j sel F xs s1
        | none => .bad) else .bad
      | none => .bad)
    | none => .bad)
  | _ => .bad
theorem selNew_ok {ps ks : List Str} {n : Nat} {dfl : List PV} {sel : List Sel} (hfl : dfl.all flatB = true) (hse : selNew ps ks n dfl = some sel) : sel.all flatSel = true ∧ sel.length + 1 = ps.length := by
  have hf := sel_flat (ps := ps) (ks := ks) (n := n + 1) hfl
  have e0 : (selOf ps ks (n + 1) dfl).length = ps.length := by unfold selOf; simp
  unfold selNew at hse
  split at hse
  · rename_i r er
    split at hse
    · cases hse
      rw [er] at hf e0
      simp only [List.all_cons, Bool.and_eq_true] at hf
      refine ⟨?_, by simpa using e0⟩
      rw [List.all_map]
      apply List.all_eq_true.mpr
      intro t ht
      have := List.all_eq_true.mp hf.2 t ht
      cases t with
      | a i => rfl
      | d v => exact this
    · cases hse
  · cases hse
section
variable {R : RC} {b : Tb} {mN : Nat → Str} {fD : Nat → FuncData} {T : List FnI} {W : WX} {X : Cx} {k : Nat} {md : Md}
theorem pe_newV {mt : Bool} {x : Str} {p pos : Pos} {es : List Expr} {kws : List Keyword} {mo : D PV} {as bs : List (D PV)} {ini : Nat → Option Nat} {sgf : Nat → Option (List Str × List PV)} (lk : Lnk R b mN fD T X.K) (fs : Fns md R fD T X.prog X.w X.K X.mg X.base k) (hr : RoomG md.isHot (6 * k + hb md + 1) X.A) (tk : Takesm md.nc X W) (M : ∀ c j, ini c = some j → Mk X.K (R.cA c) (R.fA j))
    (hsg : ∀ j ps dfl, sgf j = some (ps, dfl) → ∃ fi, T[j]? = some fi ∧ fi.ps = ps ∧ dfl.all flatB = true ∧ ∀ ks n, allOk ps ks n dfl.length = true → ShapeOk X.K (fD j) ps n ks (selOf ps ks n dfl))
    (ho : PE X (.Name x p) (tE R (callK T k) W mo)) (ha : PA X es (tL R (callK T k) W (dArgs as))) (hb : PK X kws (tL R (callK T k) W (dArgs bs))) (hkw : kwOk kws = true) (hbl : kws.length = bs.length) (hel : es.length = as.length)
    (hst : ∀ e r, es = e :: r → starEach es X.env = (false, eval e X.env) :: starEach r X.env) (hpl : (backTo pos (starEach es X.env)).any (·.1) = false) :
    PE X (.Call (.Name x p) es kws pos) (tE R (callK T k) W (dNewV mt ini sgf mo as bs (kwNames kws))) := by
  refine ⟨fun pins s0 sg H0 Q I0 ⟨rho0, st0, env, hE0, hS0, g0⟩ => ?_⟩
  refine wpAny_Call_Name_kw (thn (ho.run pins s0 sg H0 _ I0 ⟨rho0, st0, env, hE0, hS0, Good.bnd g0⟩) fun u s ⟨v, H, I, rv, q⟩ => ?_)
  obtain ⟨rho, st, xo, M1, S1, r1, g1⟩ := q
  split at g1
  rotate_left
  · exact g1.elim
  rename_i c
  split at g1
  rotate_left
  · exact g1.elim
  rename_i j ei
  split at g1
  rotate_left
  · exact g1.elim
  rename_i ps dfl es1
  split at g1
  rotate_left
  · exact g1.elim
  rename_i hok
  split at g1
  rotate_left
  · exact g1.elim
  rename_i sel hse
  simp only [RepV] at r1
  subst r1
  obtain rfl : u = Value.ref (R.cA c) := rv
  obtain ⟨fi, hj, q2, q3, q4⟩ := hsg j ps dfl es1
  subst q2
  obtain ⟨sflat, slen⟩ := selNew_ok q3 hse
  have MK := M c j ei
  have hsh := q4 _ _ hok
  have h2 := tl_kw ⟨rho, st, env, hE0.mono M1, S1, g1⟩
  obtain ⟨k1, k2, k3⟩ := kw_all (env := X.env) (pos := pos) hkw
  have fin : ∀ {us ws : List Value} {vs zs : List V} {s2 : Shared} {H2 : Hp}, Inv X pins sg H2 s2 → Vals vs us → Vals zs ws → vs.length = as.length → zs.length = bs.length →
      (∃ rho st xs, StRep R rho st H2 ∧ RepVs R rho H2 xs (vs ++ zs) ∧ Good R (RepV R) rho H2 (newSel mt c j sel (callK T k) xs st) (fun cls d H' => W cls d sg H') Q) → wpAny (model X.prog X.w) X.A (call (.ref (R.cA c)) us ((kwNames kws).zip ws)) (EP X pins sg Q) X.xe s2 := by
    intro us ws vs zs s2 H2 I2 r1 r2 l1 l2 ⟨rho, st, xs, S, rx, g⟩
    unfold newSel at g
    split at g
    · rename_i ys ep
      have ry := pick_ok rx sflat ep
      have ly := ry.length
      rw [List.length_map] at ly
      exact run_makeG (vs := sel.map (selV (vs ++ zs))) lk fs hr tk MK I2 hj (fun s' a hk => new_bind hsh hse s' a us ws vs zs hk r1 r2 (by rw [← r1.length, l1]) (by rw [← r2.length, l2, kwNames_len hkw, hbl])) (by omega) S ry g
    · exact g.elim
  cases es with
  | nil =>
    obtain rfl : as = [] := List.length_eq_zero_iff.mp hel.symm
    have h3 := te_argsNil _ h2
    obtain ⟨_, q⟩ : ([] : List V).length = 0 ∧ _ := h3
    refine PySem.W.callWith_KW0 (h₀ := X.base) I.ok.mod.kin MK.kp k1 ?_ (by rw [k2]; rfl)
    refine thn (hb.run pos pins s sg H _ I q) fun ws s2 ⟨zs, H2, I2, r2, l2, q2⟩ => ⟨I2.kIn, ?_⟩
    rw [k3]
    exact fin (us := []) (vs := []) I2 .nil r2 rfl l2 q2
  | cons e r =>
    refine PySem.W.callWith_KW (h₀ := X.base) I.ok.mod.kin MK.kp k1 (thn (ha.run pos pins s sg H _ I h2) fun us s1 ⟨vs, H1, I1, r1, l1, q⟩ => ?_) (by rw [hpl, k2]; rfl) (hst e r rfl)
    refine thn (hb.run pos pins s1 sg H1 _ I1 q) fun ws s2 ⟨zs, H2, I2, r2, l2, q2⟩ => ⟨I2.kIn, ?_⟩
    rw [k3]
    exact fin I2 r1 r2 l1 l2 q2
end
end OL
set_option maxRecDepth 100000
set_option maxHeartbeats 0
/-! ## enumerate over a tuple -/
namespace OL
open PySem PySem.Spec
open L2 PyProof.Rows
open AutoSeq1 (wpAny_loadPart')
theorem meets_enT (t : Addr) (its : Array Value) (n : Nat) (dct : Option Addr) (sl : Array (Option Value)) :
    Meets (Builtin.«enumerate.__new__» ⟨[.type "enumerate", .ref t], []⟩) (fun _ R s => s.heap.get? t = some { cls := .type "tuple", dict := dct, data := .seq its n, slots := sl } ∧
      R (.ok (.ret (.ref (s.heap.push { cls := .type "tuple_iterator", data := .fields #[.ref t, .int 0 0] }).objs.size)))
        { s with heap := (s.heap.push { cls := .type "tuple_iterator", data := .fields #[.ref t, .int 0 0] }).push { cls := .type "enumerate", data := .fields #[.none, .bool false, .ref s.heap.objs.size, rawInt 0, .none, .none] } }) :=
  .of_wp fun prog w A R s h => by
    obtain ⟨hp, g, d, tk, os⟩ := s
    obtain ⟨hl, h⟩ := h
    have sub := sub_enumerate
    have hT : Heap.IsTuple (Shared.heap ⟨hp, g, d, tk, os⟩) t its := ⟨_, hl, rfl, n, rfl⟩
    wp_walk using wpAny_loadPart' hl
    refine wpAny_stack_any fun st => wpAny_pure ?_
    split
    · rename_i c _ _ _ _ _
      cases (c == Value.type "enumerate")
      all_goals
        wp_walk using wpAny_loadPart' hl, wpAny_pyIter_tuple hT
        exact ⟨_, rfl, h⟩
    · wp_walk using wpAny_loadPart' hl, wpAny_pyIter_tuple hT
      exact ⟨_, rfl, h⟩
theorem call_enT {prog : Program} {w : World} {A : Around} {E : Value → Shared → Prop} {s : Shared} {t : Addr} {its : Array Value} {Q : Value → Shared → Prop} (hT : s.heap.IsTuple t its)
    (h : ∀ h', IsEnum h' (s.heap.objs.size + 1) s.heap.objs.size 0 .none → h'.IsTupleIter s.heap.objs.size t 0 → (∀ b o, s.heap.get? b = some o → h'.get? b = some o) → Q (.ref (s.heap.objs.size + 1)) { s with heap := h' }) :
    wpAny (model prog w) A (call (.type "enumerate") [.ref t]) Q E s := by
  obtain ⟨⟨c, dct, dt, sl⟩, hl, hc, n, hd⟩ := hT
  obtain rfl : c = .type "tuple" := hc
  obtain rfl : dt = .seq its n := hd
  refine callType_new F.called_enumerate (by decide) (F.typeCall_enumerate_1 _) (F.newCall_enumerate_1 _) (fun obj => F.args_object_init_2 obj _) F.entry_enumerate_new (meets_enT t its n dct sl) ⟨hl, ?_⟩
  have hz : (s.heap.push { cls := .type "tuple_iterator", data := .fields #[.ref t, .int 0 0] }).objs.size = s.heap.objs.size + 1 := Heap.size_push ..
  show _ ∧ _
  rw [hz]
  have he : IsEnum ((s.heap.push { cls := .type "tuple_iterator", data := .fields #[.ref t, .int 0 0] }).push
      { cls := .type "enumerate", data := .fields #[.none, .bool false, .ref s.heap.objs.size, rawInt 0, .none, .none] }) (s.heap.objs.size + 1) s.heap.objs.size 0 .none := by
    have q := Heap.get?_push_size (s.heap.push { cls := .type "tuple_iterator", data := .fields #[.ref t, .int 0 0] })
      (o := { cls := .type "enumerate", data := .fields #[.none, .bool false, .ref s.heap.objs.size, rawInt 0, .none, .none] }) rfl
    rw [hz] at q
    exact q
  exact ⟨⟨_, he, rfl⟩, h _ he ⟨_, Heap.get?_push_of_some _ (Heap.get?_push_size _ rfl), rfl, rfl⟩ fun b o x => Heap.get?_push_of_some _ (Heap.get?_push_of_some _ x)⟩
/-- the items of the tuple at a, each in a new pair behind its number -/
def IteT (K : PySem.W.Frag) (a : Addr) : It :=
  ⟨fun i H => ∃ (xs : List V) (x : V), SqT K H a xs ∧ xs[i]? = some x, fun i H v H' => ∃ T x, v = .ref T ∧ H T = none ∧ H' = upd H T (.tup [.int (i : Nat), x]) ∧ ∀ xs, SqT K H a xs → xs[i]? = some x, fun i H => ∃ xs : List V, SqT K H a xs ∧ xs.length ≤ i⟩
theorem turn_enT {P : Program} {w : World} {K : PySem.W.Frag} {elts : List Expr} {kk : Nat} {tpos : Pos} (a e it : Addr) :
    Turn P w K (.Tuple elts kk tpos) (IteT K a) [e, it] e (fun i h => (∃ old, IsEnum h e it ((i : Nat) : Int) old) ∧ h.IsTupleIter it a i ∧ e ≠ it) where
  mem := by simp
  obj := fun i h st b hb => by
    obtain ⟨⟨old, he⟩, ⟨o, ho, hc, hd⟩, _⟩ := st
    rcases (show b = e ∨ b = it by simpa using hb) with z | z
    · rw [z]; exact ⟨_, he, fun v q => nomatch q⟩
    · rw [z]; exact ⟨o, ho, fun v q => by rw [hd] at q; cases q⟩
  keep := fun i h h' st k => let ⟨⟨old, he⟩, hi, hne⟩ := st; ⟨⟨old, k e (by simp) _ he⟩, hi.at fun o q => k it (by simp) o q, hne⟩
  item := by
    intro X hP hw hK hc i pins s sg H E I hf st hg
    subst hP hw hK
    obtain ⟨⟨old, he⟩, hit, hne⟩ := st
    obtain ⟨xs, x, hq, hx⟩ := hg
    obtain ⟨its, rv, p, hz⟩ := I.tuple hq
    obtain ⟨u, hu, ru⟩ := rv.get hx
    have hp : s.heap.IsTuple a its.toArray := p
    have lt1 : e < s.heap.objs.size := Heap.lt_size he
    have lt2 : it < s.heap.objs.size := by obtain ⟨_, q, _⟩ := hit; exact Heap.lt_size q
    have hat : a ≠ it := fun z => by
      obtain ⟨o, h1, h2, _⟩ := hp
      obtain ⟨o', h3, h4, _⟩ := hit
      rw [z, h3] at h1
      cases h1
      rw [h2] at h4
      simp at h4
    have hae : e ∉ [it, a] := fun z => by
      rcases (show e = it ∨ e = a by simpa using z) with y | y
      · exact hne y
      · obtain ⟨o, h1, h2, _⟩ := hp
        have he' : s.heap.get? e = some _ := he
        rw [← y, he'] at h1
        cases h1
        simp at h2
    have hlen : i < its.toArray.size := by
      have := (List.getElem?_eq_some_iff.mp hu).1
      simpa using this
    refine wpAny_pyNext_enum_itemD (Draws.tuple (show X.A.in1.handled = none from I.ok.hd hc) it a hat its.toArray) he ⟨hit, hp⟩ hlen hne hae fun y h' tk hy ho st' hT hsz hk => ?_
    have ey : y = u := by
      have h1 : its[i]? = some y := by simpa using hy
      rw [hu] at h1
      exact (Option.some.inj h1).symm
    subst ey
    refine ⟨_, rfl, wpAny_letOwnedTupleGo_enum (s := { s with heap := h', toks := tk + 1 }) ho fun h'' he' sb => ?_⟩
    have hT2 : h''.get? s.heap.objs.size = some { cls := .type "tuple", data := .seq #[.int i tk, y] } := (sb.2 _ (Nat.ne_of_gt lt1)).trans hT
    have new : ObjOk X.prog X.w (upd H s.heap.objs.size (.tup [.int (i : Nat), x])) h'' s.heap.objs.size (.tup [.int (i : Nat), x]) :=
      ⟨by show 2 ≤ sizeLine; decide, [.int i tk, y], .cons ⟨_, rfl⟩ (.cons ru .nil), ⟨_, hT2, rfl, _, rfl⟩⟩
    have I1 : Inv X pins sg (upd H s.heap.objs.size (.tup [.int (i : Nat), x])) { s with heap := h'', toks := tk + 1 } :=
      I.turnedNew (ch := [e, it]) (fun b ob hb q => (sb.2 b (fun z => hb (by simp [z]))).trans (hk b ob (fun z => hb (by simp [z])) (fun z => hb (by simp [z])) q)) hf (Nat.le_refl _) new
    refine ⟨.ref s.heap.objs.size, _, I1, rfl, ⟨_, x, rfl, I.hok.fresh (Nat.le_refl _), rfl, fun ys hy => by rw [I.tuple_inj hy hq]; exact hx⟩, ⟨⟨y, ?_⟩, st'.1.at fun o q => (sb.2 it (Ne.symm hne)).trans q, hne⟩, fun b hb => ?_⟩
    · rw [show ((i + 1 : Nat) : Int) = (i : Int) + 1 by omega]
      exact he'
    · have hb' : b < s.heap.objs.size := by
        rcases (show b = e ∨ b = it by simpa using hb) with z | z
        · rw [z]; exact lt1
        · rw [z]; exact lt2
      rw [upd_ne (Nat.ne_of_lt hb')]
      exact (hf b hb).1
  done := by
    intro X hP hw hK hc i pins s sg H E I hf st hg
    subst hP hw hK
    obtain ⟨⟨old, he⟩, hit, hne⟩ := st
    obtain ⟨xs, hq, hx⟩ := hg
    obtain ⟨its, rv, p, hz⟩ := I.tuple hq
    have hp : s.heap.IsTuple a its.toArray := p
    obtain ⟨f0, f1, f2, f3, f4, f5⟩ := hf it (by simp)
    have hT : s.TypeIs (.ref e) "enumerate" := ⟨_, he, rfl⟩
    unfold pyNext
    refine wpAny_bind (wpAny_attempt (wpAny_callSpecial?_slot (name := Str.ofString "__next__") hT F.slot_enumerate_next (wpAny_call_entry F.slot_enumerate_next hT F.entry_enumerate_next ?_ (F.args_enumerate_next_1 _))))
    show wpAny _ _ (field (.ref e) 2 >>= _) _ _ _
    refine wpAny_bind (wpAny_field he rfl (x := .ref it) rfl ?_)
    refine wpAny_bind (wpAny_nextOf_tuple_end (show X.A.in1.handled = none from I.ok.hd hc) hit hp (by have := rv.length; simp; omega) fun h' x he' hx' => ?_)
    obtain ⟨o, ho, hc'⟩ := hx'
    refine wpAny_bind (wpAny_isInstance (T := "StopIteration") (b := true) ⟨o, ho, hc'⟩ isSubtype_stop ?_)
    exact wpAny_pure ⟨rfl, I.turned (t' := s.toks) (fun b o hb q => he' b o hb q) f0 f1 f3 f4 f5⟩
  self := fun A i s Q E st h => let ⟨⟨_, he⟩, _⟩ := st; wpAny_pyIter_enum he h
def iEnT (K : PySem.W.Frag) (ta : TA) : TI := fun sg H R => ta sg H fun vs H1 => ∃ a xs, vs = [.ref a] ∧ SqT K H1 a xs ∧ R (IteT K a) H1
theorem pi_enT {X : Cx} {e : Expr} {ta : TA} {p pos tpos : Pos} {elts : List Expr} {kk : Nat} (hg : Gl X "enumerate") (hm : X.mg "enumerate" = none) (ha : PA X [e] ta) (hs : starEach [e] X.env = [(false, eval e X.env)]) :
    PI X (.Tuple elts kk tpos) (.Call (.Name "enumerate" p) [e] [] pos) (iEnT X.K ta) := by
  refine ⟨fun pins s sg H R I h => ?_⟩
  refine Call_ (ld_blt I hg hm boot_enumerate (PyProof.Rows.callWith_type1 (thn (ha.run pos pins s sg H _ I h) fun us s1 ⟨vs, H1, I1, r1, q1⟩ => ?_) hs rfl))
  obtain ⟨a, xs, ex, hq, q⟩ := q1
  subst ex
  cases r1 with
  | cons r rr =>
    cases rr
    cases r
    obtain ⟨its, rv, p', hz⟩ := I1.tuple hq
    refine call_enT (show s1.heap.IsTuple a its.toArray from p') fun h' he hit hk => wpAny_pyIter_enum he ?_
    have I2 : Inv X pins sg H1 { s1 with heap := h' } := I1.kept (t' := s1.toks) hk
    refine ⟨s1.heap.objs.size + 1, [s1.heap.objs.size + 1, s1.heap.objs.size], _, _, H1, rfl, I2, turn_enT a (s1.heap.objs.size + 1) s1.heap.objs.size, ⟨⟨.none, he⟩, hit, Nat.succ_ne_self _⟩, fun b hb => ?_, q⟩
    have hle : s1.heap.objs.size ≤ b := by
      rcases (show b = s1.heap.objs.size + 1 ∨ b = s1.heap.objs.size by simpa using hb) with z | z
      · rw [z]; exact Nat.le_add_right _ _
      · rw [z]; exact Nat.le_refl _
    exact I1.fpOk hle (I1.hok.fresh hle)
end OL
set_option maxRecDepth 100000
set_option maxHeartbeats 0
/-! ## for i, x in enumerate(xs) -/
namespace OL
open PySem PySem.Spec
open L2 PyProof.Rows
def enumE : Nat → List PV → List PV
  | _, [] => []
  | i, y :: ys => .tup [.int (i : Nat), y] :: enumE (i + 1) ys
theorem enumE_get : ∀ {ys : List PV} {k i : Nat} {x : PV}, (enumE k ys)[i]? = some x → ∃ y, ys[i]? = some y ∧ x = .tup [.int ((k + i : Nat) : Int), y]
  | [], _, _, _, h => by simp [enumE] at h
  | y :: ys, k, 0, x, h => by
    simp only [enumE, List.getElem?_cons_zero, Option.some.injEq] at h
    exact ⟨y, rfl, by rw [← h]; rfl⟩
  | y :: ys, k, i + 1, x, h => by
    simp only [enumE, List.getElem?_cons_succ] at h
    obtain ⟨z, h1, h2⟩ := enumE_get h
    exact ⟨z, by simpa using h1, by rw [h2]; congr 4; omega⟩
theorem enumE_len : ∀ {ys : List PV} {k : Nat}, (enumE k ys).length = ys.length
  | [], _ => rfl
  | _ :: ys, k => by simp [enumE, enumE_len (ys := ys)]
def enumOf : PV → Option (List PV)
  | .tup xs => some (enumE 0 xs)
  | .kt xs => some (enumE 0 xs)
  | .lv xs => some (enumE 0 xs)
  | .fl xs => some (enumE 0 xs)
  | _ => none
def dEnum (a : D PV) : D Src := fun F e st => (a F e st).bnd fun x s => match enumOf x with
  | some ys => .ok (.seq ys) s
  | none => .bad
section
variable {R : RC} {F : CallT} {W : WX} {X : Cx}
theorem pair_rep {rho : Rho} {st : Sto} {H : Hp} {T : Addr} {i : Nat} {y : PV} {x : V} (S : StRep R rho st H) (hT : H T = none) (r : RepV R rho H y x) :
    ∃ rho2, Mono rho H rho2 (upd H T (.tup [.int (i : Nat), x])) ∧ StRep R rho2 st (upd H T (.tup [.int (i : Nat), x])) ∧ RepV R rho2 (upd H T (.tup [.int (i : Nat), x])) (.tup [.int (i : Nat), y]) (.ref T) := by
  have M : Mono rho H rho (upd H T (.tup [.int (i : Nat), x])) := Mono.fresh S hT
  refine ⟨rho, M, S.fresh hT, ?_⟩
  simp only [RepV]
  exact ⟨T, _, rfl, ⟨upd_same, S.deadOf hT⟩, RepVs.cons (by simp only [RepV]) (RepVs.cons (r.mono M) (by simp only [RepVs]))⟩
theorem en_list {rho : Rho} {H : Hp} {xs : List PV} {vs : List V} {b : Addr} (hq : ∀ rho' H', MonoV rho H rho' H' → SqL R.K H' b vs) (rs : RepVs R rho H xs vs) : SrcRep R rho H (.seq (enumE 0 xs)) (Ite R.K b) := by
  intro rho' st' H' M' S'
  refine ⟨fun i x ex => ?_, fun i hi => ⟨vs, hq _ _ M', by rw [← rs.length, ← enumE_len (k := 0)]; exact hi⟩⟩
  obtain ⟨y, ey, rfl⟩ := enumE_get ex
  obtain ⟨w, ew, rw'⟩ := rs.get ey
  refine ⟨⟨vs, w, hq _ _ M', ew⟩, fun v H2 ⟨T, z, e1, e2, e3, e4⟩ => ?_⟩
  have e5 := e4 vs (hq _ _ M')
  rw [ew] at e5
  cases e5
  subst e1; subst e3
  rw [Nat.zero_add]
  exact pair_rep S' e2 (RepV.monoV M' _ _ rw')
theorem en_tup {rho : Rho} {H : Hp} {xs : List PV} {vs : List V} {b : Addr} (hq : ∀ rho' H', MonoV rho H rho' H' → SqT R.K H' b vs) (rs : RepVs R rho H xs vs) : SrcRep R rho H (.seq (enumE 0 xs)) (IteT R.K b) := by
  intro rho' st' H' M' S'
  refine ⟨fun i x ex => ?_, fun i hi => ⟨vs, hq _ _ M', by rw [← rs.length, ← enumE_len (k := 0)]; exact hi⟩⟩
  obtain ⟨y, ey, rfl⟩ := enumE_get ex
  obtain ⟨w, ew, rw'⟩ := rs.get ey
  refine ⟨⟨vs, w, hq _ _ M', ew⟩, fun v H2 ⟨T, z, e1, e2, e3, e4⟩ => ?_⟩
  have e5 := e4 vs (hq _ _ M')
  rw [ew] at e5
  cases e5
  subst e1; subst e3
  rw [Nat.zero_add]
  exact pair_rep S' e2 (RepV.monoV M' _ _ rw')
theorem pi_enumG {e : Expr} {a : D PV} {p pos tpos : Pos} {elts : List Expr} {kk : Nat} (hR : X.K = R.K) (hg : Gl X "enumerate") (hm : X.mg "enumerate" = none) (ha : PA X [e] (tL R F W (dArgs [a]))) (hs : starEach [e] X.env = [(false, eval e X.env)]) :
    PI X (.Tuple elts kk tpos) (.Call (.Name "enumerate" p) [e] [] pos) (tI R F W (dEnum a)) := by
  refine PI.weak (PI.or (pi_enum hg hm ha hs) (pi_enT hg hm ha hs)) fun sg H Rr ⟨rho, st, env, hE, hS, g⟩ => ?_
  rw [hR]
  unfold dEnum at g
  have run : ∀ (P : List V → Hp → Prop), Good R (RepVs R) rho H ((a F env st).bnd fun x s1 => ((dArgs [] F env s1).bnd fun xs s2 => .ok (x :: xs) s2)) (fun cls d H' => W cls d sg H') P → tL R F W (dArgs [a]) sg H P := fun P q => ⟨rho, st, env, hE, hS, q⟩
  cases ea : a F env st with
  | bad => rw [ea] at g; exact g.elim
  | exc c ks xs s =>
    rw [ea] at g
    exact .inl (run _ (by rw [ea]; exact g))
  | ok x s =>
    rw [ea] at g
    have g : Good R (SrcRep R) rho H (match enumOf x with | some ys => Res.ok (Src.seq ys) s | none => .bad) (fun cls d H' => W cls d sg H') Rr := g
    have lst : ∀ xs, enumOf x = some (enumE 0 xs) → (∀ rho1 H1 v, RepV R rho1 H1 x v → ∃ b vs, v = .ref b ∧ (∀ rho' H', MonoV rho1 H1 rho' H' → SqL R.K H' b vs) ∧ RepVs R rho1 H1 xs vs) → iEnum R.K (tL R F W (dArgs [a])) sg H Rr := by
      intro xs e2 hst
      rw [e2] at g
      refine run _ ?_
      rw [ea]
      refine fun rho1 H1 vs M1 S1 r1 => ?_
      simp only [RepVs] at r1
      obtain ⟨v, r, ev, hv, er⟩ := r1
      subst ev; subst er
      obtain ⟨b, ws, eb, hq, rs⟩ := hst rho1 H1 v hv
      subst eb
      exact ⟨b, ws, rfl, hq _ _ (MonoV.refl _ _), g rho1 H1 _ M1 S1 (en_list hq rs)⟩
    have tup : ∀ xs, enumOf x = some (enumE 0 xs) → (∀ rho1 H1 v, RepV R rho1 H1 x v → ∃ b vs, v = .ref b ∧ (∀ rho' H', MonoV rho1 H1 rho' H' → SqT R.K H' b vs) ∧ RepVs R rho1 H1 xs vs) → iEnT R.K (tL R F W (dArgs [a])) sg H Rr := by
      intro xs e2 hst
      rw [e2] at g
      refine run _ ?_
      rw [ea]
      refine fun rho1 H1 vs M1 S1 r1 => ?_
      simp only [RepVs] at r1
      obtain ⟨v, r, ev, hv, er⟩ := r1
      subst ev; subst er
      obtain ⟨b, ws, eb, hq, rs⟩ := hst rho1 H1 v hv
      subst eb
      exact ⟨b, ws, rfl, hq _ _ (MonoV.refl _ _), g rho1 H1 _ M1 S1 (en_tup hq rs)⟩
    cases x with
    | tup xs =>
      refine .inr (tup xs rfl fun rho1 H1 v r => ?_)
      simp only [RepV] at r
      obtain ⟨b, vs, ev, t, rs⟩ := r
      exact ⟨b, vs, ev, fun rho' H' M' => (t.monoV M').sq, rs⟩
    | kt xs =>
      refine .inr (tup xs rfl fun rho1 H1 v r => ?_)
      simp only [RepV] at r
      obtain ⟨b, vs, ev, t, rs⟩ := r
      exact ⟨b, vs, ev, fun rho' H' M' => .inr t, rs⟩
    | lv xs =>
      refine .inl (lst xs rfl fun rho1 H1 v r => ?_)
      simp only [RepV] at r
      obtain ⟨b, vs, ev, t, d, rs⟩ := r
      exact ⟨b, vs, ev, fun rho' H' M' => .inl (.inl (M'.keep _ _ t d)), rs⟩
    | fl xs =>
      refine .inl (lst xs rfl fun rho1 H1 v r => ?_)
      simp only [RepV] at r
      obtain ⟨b, vs, ev, t, rs⟩ := r
      exact ⟨b, vs, ev, fun rho' H' M' => (t.monoV M').sq, rs⟩
    | _ => exact g.elim
end
end OL
set_option maxRecDepth 100000
set_option maxHeartbeats 0
/-! ## for x, y in zip(xs, ys): two lists or two tuples -/
namespace OL
open PySem PySem.Spec
open L2 PyProof.Rows
def zipE : List PV → List PV → List PV
  | x :: xs, y :: ys => .tup [x, y] :: zipE xs ys
  | _, _ => []
theorem zipE_get : ∀ {xs ys : List PV} {i : Nat} {z : PV}, (zipE xs ys)[i]? = some z → ∃ x y, xs[i]? = some x ∧ ys[i]? = some y ∧ z = .tup [x, y]
  | [], _, _, _, h => by simp [zipE] at h
  | _ :: _, [], _, _, h => by simp [zipE] at h
  | x :: xs, y :: ys, 0, z, h => by
    simp only [zipE, List.getElem?_cons_zero, Option.some.injEq] at h
    exact ⟨x, y, rfl, rfl, h.symm⟩
  | x :: xs, y :: ys, i + 1, z, h => by
    simp only [zipE, List.getElem?_cons_succ] at h
    simpa using zipE_get h
theorem zipE_len : ∀ {xs ys : List PV} {i : Nat}, (zipE xs ys).length ≤ i → xs.length ≤ i ∨ ys.length ≤ i
  | [], _, i, _ => .inl (Nat.zero_le i)
  | _ :: _, [], i, _ => .inr (Nat.zero_le i)
  | x :: xs, y :: ys, 0, h => by simp [zipE] at h
  | x :: xs, y :: ys, i + 1, h => by
    simp only [zipE, List.length_cons, Nat.add_le_add_iff_right] at h ⊢
    exact zipE_len h
/-- a list or a tuple that nobody changes -/
def rowOf : PV → Option (Bool × List PV)
  | .tup xs => some (true, xs)
  | .kt xs => some (true, xs)
  | .lv xs => some (false, xs)
  | .fl xs => some (false, xs)
  | _ => none
def zipOf (x y : PV) : Option (List PV) := match rowOf x, rowOf y with
  | some (b, xs), some (c, ys) => if b = c then some (zipE xs ys) else none
  | _, _ => none
def dZip (a b : D PV) : D Src := fun F e st => (a F e st).bnd fun x s => (b F e s).bnd fun y s1 => match zipOf x y with
  | some ys => .ok (.seq ys) s1
  | none => .bad
section
variable {R : RC} {F : CallT} {W : WX} {X : Cx}
/-- where the row stands -/
theorem row_at {x : PV} {b : Bool} {xs : List PV} {rho : Rho} {H : Hp} {v : V} (h : rowOf x = some (b, xs)) (r : RepV R rho H x v) :
    ∃ a vs, v = .ref a ∧ RepVs R rho H xs vs ∧ ((b = true ∧ ∀ rho' H', MonoV rho H rho' H' → SqT R.K H' a vs) ∨ (b = false ∧ ∀ rho' H', MonoV rho H rho' H' → SqL R.K H' a vs)) := by
  unfold rowOf at h
  split at h
  · cases h
    simp only [RepV] at r
    obtain ⟨a, vs, ev, t, rs⟩ := r
    exact ⟨a, vs, ev, rs, .inl ⟨rfl, fun rho' H' M' => (t.monoV M').sq⟩⟩
  · cases h
    simp only [RepV] at r
    obtain ⟨a, vs, ev, t, rs⟩ := r
    exact ⟨a, vs, ev, rs, .inl ⟨rfl, fun rho' H' M' => .inr t⟩⟩
  · cases h
    simp only [RepV] at r
    obtain ⟨a, vs, ev, t, d, rs⟩ := r
    exact ⟨a, vs, ev, rs, .inr ⟨rfl, fun rho' H' M' => .inl (.inl (M'.keep _ _ t d))⟩⟩
  · cases h
    simp only [RepV] at r
    obtain ⟨a, vs, ev, t, rs⟩ := r
    exact ⟨a, vs, ev, rs, .inr ⟨rfl, fun rho' H' M' => (t.monoV M').sq⟩⟩
  · cases h
theorem two_rep {rho : Rho} {st : Sto} {H : Hp} {T : Addr} {x y : PV} {u v : V} (S : StRep R rho st H) (hT : H T = none) (r : RepV R rho H x u) (q : RepV R rho H y v) :
    ∃ rho2, Mono rho H rho2 (upd H T (.tup [u, v])) ∧ StRep R rho2 st (upd H T (.tup [u, v])) ∧ RepV R rho2 (upd H T (.tup [u, v])) (.tup [x, y]) (.ref T) := by
  have M : Mono rho H rho (upd H T (.tup [u, v])) := Mono.fresh S hT
  refine ⟨rho, M, S.fresh hT, ?_⟩
  simp only [RepV]
  exact ⟨T, _, rfl, ⟨upd_same, S.deadOf hT⟩, RepVs.cons (r.mono M) (RepVs.cons (q.mono M) (by simp only [RepVs]))⟩
theorem zip_list {rho : Rho} {H : Hp} {xs ys : List PV} {vs ws : List V} {a b : Addr} (hq : ∀ rho' H', MonoV rho H rho' H' → SqL R.K H' a vs) (hp : ∀ rho' H', MonoV rho H rho' H' → SqL R.K H' b ws) (rs : RepVs R rho H xs vs) (qs : RepVs R rho H ys ws) : SrcRep R rho H (.seq (zipE xs ys)) (Itz R.K a b) := by
  intro rho' st' H' M' S'
  refine ⟨fun i z ez => ?_, fun i hi => ⟨vs, ws, hq _ _ M', hp _ _ M', by rw [← rs.length, ← qs.length]; exact zipE_len hi⟩⟩
  obtain ⟨x, y, ex, ey, rfl⟩ := zipE_get ez
  obtain ⟨u, eu, ru⟩ := rs.get ex
  obtain ⟨v, ev, rv⟩ := qs.get ey
  refine ⟨⟨vs, ws, u, v, hq _ _ M', hp _ _ M', eu, ev⟩, fun o H2 ⟨T, u2, v2, e1, e2, e3, e4, e5⟩ => ?_⟩
  have e6 := e4 vs (hq _ _ M')
  have e7 := e5 ws (hp _ _ M')
  rw [eu] at e6
  rw [ev] at e7
  cases e6; cases e7
  subst e1; subst e3
  exact two_rep S' e2 (RepV.monoV M' _ _ ru) (RepV.monoV M' _ _ rv)
theorem zip_tup {rho : Rho} {H : Hp} {xs ys : List PV} {vs ws : List V} {a b : Addr} (hq : ∀ rho' H', MonoV rho H rho' H' → SqT R.K H' a vs) (hp : ∀ rho' H', MonoV rho H rho' H' → SqT R.K H' b ws) (rs : RepVs R rho H xs vs) (qs : RepVs R rho H ys ws) : SrcRep R rho H (.seq (zipE xs ys)) (RZ.ItzT R.K a b) := by
  intro rho' st' H' M' S'
  refine ⟨fun i z ez => ?_, fun i hi => ⟨vs, ws, hq _ _ M', hp _ _ M', by rw [← rs.length, ← qs.length]; exact zipE_len hi⟩⟩
  obtain ⟨x, y, ex, ey, rfl⟩ := zipE_get ez
  obtain ⟨u, eu, ru⟩ := rs.get ex
  obtain ⟨v, ev, rv⟩ := qs.get ey
  refine ⟨⟨vs, ws, u, v, hq _ _ M', hp _ _ M', eu, ev⟩, fun o H2 ⟨T, u2, v2, e1, e2, e3, e4, e5⟩ => ?_⟩
  have e6 := e4 vs (hq _ _ M')
  have e7 := e5 ws (hp _ _ M')
  rw [eu] at e6
  rw [ev] at e7
  cases e6; cases e7
  subst e1; subst e3
  exact two_rep S' e2 (RepV.monoV M' _ _ ru) (RepV.monoV M' _ _ rv)
theorem pi_zipG {e e2 : Expr} {a b : D PV} {p pos tpos : Pos} {elts : List Expr} {kk : Nat} (hR : X.K = R.K) (hg : Gl X "zip") (hm : X.mg "zip" = none) (ha : PA X [e, e2] (tL R F W (dArgs [a, b])))
    (hs : starEach [e, e2] X.env = (false, eval e X.env) :: starEach [e2] X.env) (hpl : (backTo pos (starEach [e2] X.env)).any (·.1) = false) :
    PI X (.Tuple elts kk tpos) (.Call (.Name "zip" p) [e, e2] [] pos) (tI R F W (dZip a b)) := by
  refine PI.weak (RZ.pi_zipA hg hm ha hs hpl) fun sg H Rr ⟨rho, st, env, hE, hS, g⟩ => ⟨rho, st, env, hE, hS, ?_⟩
  rw [hR]
  unfold dZip at g
  show Good R (RepVs R) rho H ((a F env st).bnd fun x s1 => ((b F env s1).bnd fun y s2 => ((dArgs [] F env s2).bnd fun xs s3 => .ok (y :: xs) s3)).bnd fun xs s2 => .ok (x :: xs) s2) _ _
  cases ea : a F env st with
  | bad => rw [ea] at g; exact g
  | exc c ks xs s => rw [ea] at g; exact g
  | ok x s =>
    rw [ea] at g
    simp only [Res.bnd] at g ⊢
    cases eb : b F env s with
    | bad => rw [eb] at g; exact g
    | exc c ks xs s => rw [eb] at g; exact g
    | ok y s1 =>
      rw [eb] at g
      simp only [dArgs, Res.bnd] at g ⊢
      refine fun rho1 H1 vs M1 S1 r1 => ?_
      simp only [RepVs] at r1
      obtain ⟨v, _, rfl, hv, w, _, rfl, hw, rfl⟩ := r1
      unfold zipOf at g
      split at g
      · rename_i ys ez
        split at ez
        · rename_i c1 xs1 c2 xs2 e1 e2'
          split at ez
          · rename_i hc
            cases ez
            subst hc
            obtain ⟨q1, us, rfl, rs, h1⟩ := row_at e1 hv
            obtain ⟨q2, ws, rfl, qs, h2⟩ := row_at e2' hw
            rcases h1 with ⟨rfl, h1⟩ | ⟨rfl, h1⟩
            · rcases h2 with ⟨_, h2⟩ | ⟨z, _⟩
              · exact ⟨q1, q2, us, ws, rfl, .inr ⟨h1 _ _ (MonoV.refl _ _), h2 _ _ (MonoV.refl _ _), g rho1 H1 _ M1 S1 (zip_tup h1 h2 rs qs)⟩⟩
              · cases z
            · rcases h2 with ⟨z, _⟩ | ⟨_, h2⟩
              · cases z
              · exact ⟨q1, q2, us, ws, rfl, .inl ⟨h1 _ _ (MonoV.refl _ _), h2 _ _ (MonoV.refl _ _), g rho1 H1 _ M1 S1 (zip_list h1 h2 rs qs)⟩⟩
          · cases ez
        · cases ez
      · exact g.elim
end
end OL
set_option maxRecDepth 100000
set_option maxHeartbeats 4000000
/-! ## an exception class called, by position or by keyword, on the heap itself -/
namespace OL
open PySem PySem.W PySem.Calls PyProof.Rows
section
variable {prog : Program} {w : World} {M : Model} {A : Around} {E : Value → Shared → Prop} {R : Result → Shared → Prop} {h : Heap} {g : Array GenState} {d : Drawn} {t : Nat} {os : OsState}
variable {nm q : Str} {C N : Addr} {bs bm bmB : List Value} {hdct : Bool} {sn : List Str} {sub : List Value} {ab : Bool} {col : Option Bool} {dd : Option Addr} {k0 k1 k2 k3 k5 : Option Value} {B newId initId : String}
variable {us : List Value} {kw : List (Str × Value)}
theorem xm_chkNew (FB : ExcBaseFacts B newId initId bmB) (tail : ∀ Y : String, bm.contains (.type Y) = bmB.contains (.type Y)) {Q : Unit → Shared → Prop}
    (cl : h.get? C = some (excClassObj nm q C N bs bm hdct sn sub ab col dd k0 k1 k2 k3 k5 newId)) (done : Q () ⟨h, g, d, t, os⟩) : wpAny M A (checkBuiltinCall newId ⟨.ref C :: us, kw⟩) Q E ⟨h, g, d, t, os⟩ := by
  have inB : (Value.ref C :: bm).contains (.type B) = true := by rw [List.contains_cons, tail, FB.hasB, Bool.or_true]
  have star := FB.noStar
  simp only [checkBuiltinCall, FB.newKind, FB.newSplit, FB.newRow]
  repeat (first | refine wpAny_loadPart_at cl ?_ | (refine wpAny_isSubtype_exc cl ?_; rw [inB]) | refine wpAny_staticBase_exc cl ?_ | refine wpAny_madeBy_exc cl ?_ | simp only [bne_self_eq_false, Bool.false_eq_true, if_false] | wp_step)
  exact done
theorem xm_new (FB : ExcBaseFacts B newId initId bmB) (tail : ∀ Y : String, bm.contains (.type Y) = bmB.contains (.type Y))
    (cl : h.get? C = some (excClassObj nm q C N bs bm hdct sn sub ab col dd k0 k1 k2 k3 k5 newId))
    (done : R (.ok (.ret (.ref (h.objs.size + 1)))) ⟨(h.push (kdv_tup us)).push (HandSPX.excO C h.objs.size), g, d, t, os⟩) (few : us.length ≤ sizeLine) :
    codeAny (model prog w) A (.builtin newId ⟨.ref C :: us, kw⟩) R ⟨h, g, d, t, os⟩ := by
  have ends := FB.ends
  have in1 : (Value.ref C :: bm).contains (.type B) = true := by rw [List.contains_cons, tail, FB.hasB, Bool.or_true]
  have in2 : (Value.ref C :: bm).contains (.type "AttributeError") = false := by rw [List.contains_cons, tail, FB.noAttr]; rfl
  have in3 : (Value.ref C :: bm).contains (.type "NameError") = false := by rw [List.contains_cons, tail, FB.noName]; rfl
  refine codeAny_builtinAt FB.entry ?_
  unfold Builtin.«BaseException.__new__»
  refine PySem.wpAt_bind ?_
  show PySem.wpAt _ _ _ (stack >>= _) _ _ _
  refine PySem.wpAt_bind (PySem.wpAt_stack fun p below => PySem.wpAt_of_wpAny ?_)
  wp_walk
  refine PySem.wpAt_of_wpAny ?_
  rw [FB.owner]
  repeat (first | with_reducible refine wpAny_madeHere_exc FB.canon cl ?_ | with_reducible refine wpAny_loadPart_at cl ?_ | (with_reducible refine wpAny_isSubtype_exc cl ?_; first | rw [in1] | rw [in2] | rw [in3]) | wp_step)
  show R _ _
  rw [Heap.size_push]
  exact done
theorem xm_tcall (FB : ExcBaseFacts B newId initId bmB) (tail : ∀ Y : String, bm.contains (.type Y) = bmB.contains (.type Y)) {fI : Addr} {Q : Fin → Shared → Prop}
    (cl : h.get? C = some (excClassObj nm q C N bs bm hdct sn sub ab col dd k0 k1 k2 k3 k5 newId))
    (ini : Looks (model prog w) h (typeLookup (.ref C) "__init__") (some (.ref fI))) (bnd : ∀ self, Looks (model prog w) h (bindSpecial (.ref fI) self) (.ref fI, [self])) (few : us.length ≤ sizeLine)
    (run : codeAny (model prog w) A (.call (.ref fI) ⟨.ref (h.objs.size + 1) :: us, kw⟩)
      (fun r s' => match r with | .ok (.ret v) => v = .none ∧ Q (.done (.ret (.ref (h.objs.size + 1)))) s' | .ok _ => False | .error e => E e s')
      ⟨(h.push (kdv_tup us)).push (HandSPX.excO C h.objs.size), g, d, t, os⟩) :
    wpAny (model prog w) A (Builtin.«type.__call__» ⟨.ref C :: us, kw⟩) Q E ⟨h, g, d, t, os⟩ := by
  repeat (first | with_reducible refine wpAny_loadPart_at cl ?_ | with_reducible refine wpAny_madeBy_exc cl ?_ | wp_step)
  refine codeAny_call_builtin_code (Code.quiet_builtin _ FB.quiet) (xm_chkNew FB tail cl ?_)
  refine xm_new FB tail cl ?_ few
  show wpAny _ _ _ _ _ _
  have up : ∀ b o, h.get? b = some o → ((h.push (kdv_tup us)).push (HandSPX.excO C h.objs.size)).get? b = some o := fun b o e => Heap.get?_push_of_some _ (Heap.get?_push_of_some _ e)
  have cl2 := up _ _ cl
  have got : ((h.push (kdv_tup us)).push (HandSPX.excO C h.objs.size)).get? (h.objs.size + 1) = some (HandSPX.excO C h.objs.size) := by heap_get
  have inC : (Value.ref C :: bm).contains (.ref C) = true := by simp
  have ini2 := ini.keeps up
  have bnd2 := (bnd (.ref (h.objs.size + 1))).keeps up
  unfold isInstance
  repeat (first | with_reducible refine wpAny_loadPart_at got ?_ | (with_reducible refine wpAny_isSubtype_exc cl2 ?_; rw [inC]) | wp_step)
  show wpAny _ _ (typeLookup (.ref C) _) _ _ _
  refine ini2.at ?_
  refine wpAny_holding (wpAny_bind (bnd2.at ?_))
  refine wpAny_bind (wpAny_call (codeAny_mono run fun r s' z => ?_))
  rcases r with e | (v | _ | _ | _) <;> first | exact z | exact z.elim | skip
  obtain ⟨rfl, z⟩ := z
  first
    | exact wpAny_pure (wpAny_pure z)
    | (wp_walk; exact z)
theorem xm_chkType {Q : Unit → Shared → Prop} (cl : h.get? C = some (excClassObj nm q C N bs bm hdct sn sub ab col dd k0 k1 k2 k3 k5 newId))
    (done : Q () ⟨h, g, d, t, os⟩) : wpAny M A (checkBuiltinCall "type.__call__" ⟨.ref C :: us, kw⟩) Q E ⟨h, g, d, t, os⟩ := by
  have f3 := tc_sub
  have ty : (⟨h, g, d, t, os⟩ : Shared).TypeIs (.ref C) "type" := ⟨_, cl, rfl⟩
  simp only [checkBuiltinCall, tc_kind, tc_split]
  repeat (any_goals (first | assumption | with_reducible refine wpAny_loadPart_at cl ?_ | with_reducible refine wpAny_onRaise ?_ | with_reducible refine wpAny_map ?_ | wp_step))
theorem xm_call (FB : ExcBaseFacts B newId initId bmB) (tail : ∀ Y : String, bm.contains (.type Y) = bmB.contains (.type Y)) {fI : Addr}
    (cl : h.get? C = some (excClassObj nm q C N bs bm hdct sn sub ab col dd k0 k1 k2 k3 k5 newId))
    (ini : Looks (model prog w) h (typeLookup (.ref C) "__init__") (some (.ref fI))) (bnd : ∀ self, Looks (model prog w) h (bindSpecial (.ref fI) self) (.ref fI, [self])) (few : us.length ≤ sizeLine)
    (run : codeAny (model prog w) (A.under (.builtin "type.__call__" ⟨.ref C :: us, kw⟩)) (.call (.ref fI) ⟨.ref (h.objs.size + 1) :: us, kw⟩) (InitBack (h.objs.size + 1) R)
      ⟨(h.push (kdv_tup us)).push (HandSPX.excO C h.objs.size), g, d, t, os⟩) :
    codeAny (model prog w) A (.call (.ref C) ⟨us, kw⟩) R ⟨h, g, d, t, os⟩ := by
  have f1 := tc_lookup
  have f2 := tc_bind (.ref C)
  have ty : (⟨h, g, d, t, os⟩ : Shared).TypeIs (.ref C) "type" := ⟨_, cl, rfl⟩
  refine codeAny_of_tree ?_
  show wpAny _ _ (callAny (.ref C) _) _ _ _
  repeat (any_goals (first | assumption | with_reducible refine wpAny_loadPart_at cl ?_ | wp_step))
  refine ⟨rfl, ?_⟩
  refine codeAny_call_builtin_at (Code.quiet_builtin _ (by decide +kernel)) entry_typeCall (xm_chkType cl (xm_tcall FB tail cl ini bnd few ?_))
  refine codeAny_mono run fun r s' z => ?_
  rcases r with e | (v | _ | _ | _) <;> exact z
end
end OL
set_option maxRecDepth 100000
set_option maxHeartbeats 4000000
/-! ## the __init__ of an exception class: super().__init__(), then self.f = p, .. -/
namespace OL
open PySem PySem.W PySem.Calls PyProof.Rows Builtin Builtin.ObjectAttr
/-- what the written part says of such a class -/
structure XcK (K : Frag) (C : Addr) (B newId initId : String) (bmB : List Value) : Prop where
  base : ExcBaseFacts B newId initId bmB
  sfac : StoreFacts B bmB "object.__setattr__" "object"
  xfac : KxsFacts B initId
  cls : excInitIn K C bmB newId = true
  sa : findIn K (.ref C) "__setattr__" = some (some (.builtin "object.__setattr__"))
  ov : excOver K C bmB = true
  hd : hasDictIn K C = true
  opq : nsIn K cStatics "thirdparty.any" = some none
  subB : subIn K (.ref C) (.type B) = some true
/-- the exception that is being made: its frame L, itself at a, its dict -/
structure XSt (h0 : Heap) (L a C : Addr) (m : Str → Option Value) (fs : List (Str × Value)) (h : Heap) : Prop where
  keep : ∀ b o, h0.get? b = some o → h.get? b = some o
  ns : h.Ns L m
  at_ : ∃ (t : Addr) (dd : Option Addr), h.get? a = some (excObj C t dd .none) ∧ (match dd with
    | none => fs = []
    | some x => fs ≠ [] ∧ h0.objs.size ≤ x ∧ x ≠ a ∧ x ≠ L ∧ ∃ mA, h.Ns1 x mA ∧ ∀ f, mA f = fs.lookup f)
section
variable {prog : Program} {w : World} {A : Around} {E : Value → Shared → Prop} {h0 hp : Heap} {g : Array GenState} {d : Drawn} {t : Nat} {os : OsState} {K : Frag} {L a C : Addr} {m : Str → Option Value} {fs : List (Str × Value)} {B newId initId : String} {bmB : List Value}
theorem ns_within {fs : List (Str × Value)} {mA : Str → Option Value} (e : ∀ f, mA f = fs.lookup f) : Within mA (fs.map (·.1)) := fun y hy => by
  rw [e y] at hy
  cases q : fs.lookup y with
  | none => exact absurd q hy
  | some v =>
    have := PySem.mem_of_lookup q
    exact List.mem_map.mpr ⟨_, this, rfl⟩
/-- self.f = v -/
theorem xi_set {f : Str} {v : Value} {Q : Unit → Shared → Prop} (X : XcK K C B newId initId bmB) (KX : K.In h0) (S : XSt h0 L a C m fs hp) (ha : h0.objs.size ≤ a) (hL : h0.objs.size ≤ L) (hal : a ≠ L) (hno : findIn K (.ref C) f = some none) (few : fs.length ≤ 900)
    (done : ∀ h' tk', XSt h0 L a C m ((f, v) :: fs) h' → Q () ⟨h', g, d, tk', os⟩) : wpAny (model prog w) A (setAttr (.ref a) f v) Q E ⟨hp, g, d, t, os⟩ := by
  obtain ⟨keep, ns, ta, dd, hx, hd⟩ := S
  have KH : K.In hp := KX.keeps keep
  have tk : takerIn K C f = some none := by unfold takerIn; rw [hno]; rfl
  obtain ⟨cd, hcd⟩ : ∃ cd, clsIn K C = some cd := by
    have := X.ov
    unfold excOver at this
    cases q : clsIn K C with
    | none => rw [q] at this; cases this
    | some cd => exact ⟨cd, rfl⟩
  have hh : cd.hasDict = true := by
    have := X.hd
    unfold hasDictIn at this
    rw [hcd] at this
    exact this
  have hcls : Looks (model prog w) hp (classData C) cd := looks_clsIn KH hcd
  have nob : ∀ {b : Addr} {o : Obj}, h0.get? b = some o → b < h0.objs.size := fun e => Heap.lt_size e
  have hput : ∀ g' : Str, (if g' = f then some v else fs.lookup g') = ((f, v) :: fs).lookup g' := fun g' => by
    rw [List.lookup_cons]
    by_cases q : g' = f
    · subst q; simp
    · have : (g' == f) = false := beq_eq_false_iff_ne.mpr q
      rw [this, if_neg q]
  cases dd with
  | none =>
    have hd : fs = [] := hd
    subst hd
    have I : InstAt hp a (excObj C ta none .none) C none := ⟨hx, rfl, rfl, trivial⟩
    refine set_plain KH (ox := excObj C ta none .none) (od := none) I X.sa (osa_openX X.sfac KH I X.ov tk fun b => ?_)
    show wpAny _ _ (storeInOwnDict (.ref a) (.ref C) (.str f t) f v b) _ _ _
    obtain ⟨nm, bs, mro, ns', qn, hd', sn, sb, ab, col, del⟩ := cd
    dsimp only at hh
    subst hh
    have hxs : a ≠ hp.objs.size := Nat.ne_of_lt (Heap.lt_size hx)
    unfold storeInOwnDict ownDictForStores
    repeat (first | with_reducible refine HandSPX.store_in_new ?_ ?_ | with_reducible refine wpAny_loadPart_at hx ?_ | with_reducible refine hcls.at ?_ | wp_step)
    · exact ⟨_, #[], _, (Heap.get?_update_ne _ _ _ _ hxs.symm).trans (Heap.get?_push_at rfl rfl), rfl, fun e he => absurd he (by simp), fun _ => rfl⟩
    · intro h' tk' hn' hs
      have hx1 : (hp.push { cls := .type "dict", data := .dict #[] }).get? a = some (excObj C ta none .none) := Heap.get?_push_of_some _ hx
      have kk : ∀ b o, b ≠ a → hp.get? b = some o → h'.get? b = some o := fun b o hb ho => (hs.2 b (Nat.ne_of_lt (Heap.lt_size ho))).trans ((Heap.get?_update_ne _ _ _ _ hb).trans (Heap.get?_push_of_some _ ho))
      refine done h' tk' ⟨fun b o e => kk b o (Nat.ne_of_lt (Nat.lt_of_lt_of_le (nob e) ha)) (keep b o e), ?_, ta, some hp.objs.size, (hs.2 a hxs).trans (Heap.get?_update_self _ hx1 rfl), ?_⟩
      · obtain ⟨oL, es, ep, e1, r⟩ := ns
        exact ⟨oL, es, ep, kk _ _ (Ne.symm hal) e1, r⟩
      · refine ⟨by simp, ?_, hxs.symm, ?_, _, hn', fun g' => ?_⟩
        · exact Nat.le_of_lt (Nat.lt_of_le_of_lt ha (Heap.lt_size hx))
        · obtain ⟨oL, es, ep, e1, r⟩ := ns
          exact (Nat.ne_of_lt (Heap.lt_size e1)).symm
        · exact hput g'
  | some x =>
    obtain ⟨hne, hx0, hxa, hxL, mA, hn, hm⟩ := hd
    have hw := ns_within hm
    obtain ⟨oD, esD, epD, hoD, hdD, _⟩ := hn.count hw
    have I : InstAt hp a (excObj C ta (some x) .none) C (some oD) := ⟨hx, rfl, rfl, hoD⟩
    refine set_plain KH (ox := excObj C ta (some x) .none) (od := some oD) I X.sa (osa_openX X.sfac KH I X.ov tk fun b => ?_)
    show wpAny _ _ (storeInOwnDict (.ref a) (.ref C) (.str f t) f v b) _ _ _
    obtain ⟨nm, bs, mro, ns', qn, hd', sn, sb, ab, col, del⟩ := cd
    dsimp only at hh
    subst hh
    unfold storeInOwnDict ownDictForStores
    repeat (first | with_reducible refine OEX.store_in_old hn hw (by rw [List.length_map]; omega) ?_ | with_reducible refine wpAny_loadPart_at hx ?_ | with_reducible refine hcls.at ?_ | wp_step)
    intro h' tk' hn' hs
    refine done h' tk' ⟨fun b o e => (hs.2 b (Nat.ne_of_lt (Nat.lt_of_lt_of_le (nob e) hx0))).trans (keep b o e), ?_, ta, some x, (hs.2 a (Ne.symm hxa)).trans hx, by simp, hx0, hxa, hxL, _, hn', fun g' => ?_⟩
    · obtain ⟨oL, es, ep, e1, r⟩ := ns
      exact ⟨oL, es, ep, (hs.2 _ (Ne.symm hxL)).trans e1, r⟩
    · show (if g' = f then some v else mA g') = _
      rw [hm g']
      exact hput g'
end
/-! ### the rest of the body -/
inductive XiR (sn : Str) : List Stmt → List (Str × Str) → Prop
  | nil : XiR sn [] []
  | cons {f p : Str} {p0 p1 p2 p3 : Pos} {r : List Stmt} {fs : List (Str × Str)} : XiR sn r fs → XiR sn (.Assign [.Attribute (.Name sn p0) f p1] (.Name p p2) p3 :: r) ((f, p) :: fs)
section
variable {prog : Program} {w : World} {A : Around} {E : Value → Shared → Prop} {h0 : Heap} {g : Array GenState} {d : Drawn} {os : OsState} {K : Frag} {L a C : Addr} {m : Str → Option Value} {B newId initId : String} {bmB : List Value} {env : Env} {sn : Str}
theorem xi_rest (X : XcK K C B newId initId bmB) (KX : K.In h0) (ha : h0.objs.size ≤ a) (hL : h0.objs.size ≤ L) (hal : a ≠ L) (hk : env.scope.kind = .function) (hel : env.locals = L) (hsn : env.kindOf sn = some .local) (hms : m sn = some (.ref a)) (hsd : (sn == ("__debug__" : Str)) = false) :
    ∀ (r : List Stmt) (fps : List (Str × Str)) (fs : List (Str × Value)) (vs : List Value) (hp : Heap) (t : Nat) (Q : Flow → Shared → Prop), XiR sn r fps → XSt h0 L a C m fs hp → fs.length + fps.length ≤ 900 →
      (∀ q ∈ fps, findIn K (.ref C) q.1 = some none ∧ env.kindOf q.2 = some .local ∧ (q.2 == ("__debug__" : Str)) = false) → fps.map (fun q => m q.2) = vs.map some →
      (∀ h' tk', XSt h0 L a C m (((fps.map (·.1)).zip vs).reverse ++ fs) h' → Q .next ⟨h', g, d, tk', os⟩) → wpAny (model prog w) A (execs r env) Q E ⟨hp, g, d, t, os⟩ := by
  intro r
  induction r with
  | nil =>
    intro fps fs vs hp t Q hr S _ _ hv done
    cases hr
    obtain rfl : vs = [] := by
      cases vs with
      | nil => rfl
      | cons _ _ => simp at hv
    exact wpAny_execs_nil (done hp t S)
  | cons st r ih =>
    intro fps fs vs hp t Q hr S few hf hv done
    cases hr with
    | @cons f p p0 p1 p2 p3 _ fps hr =>
      cases vs with
      | nil => simp at hv
      | cons v vs =>
        simp only [List.map_cons, List.cons.injEq] at hv
        obtain ⟨h1, h2, h3⟩ := hf (f, p) (List.mem_cons_self ..)
        have ns := S.ns
        rw [← hel] at ns
        refine wpAny_execs_cons (plainObj_wpAny_Assign_Attribute (wpAny_Name (wpAny_loadName_local hk h2 ns hv.1 (wpAny_Name (wpAny_loadName_local hk hsn ns hms ?_) hsd)) h3) rfl)
        refine xi_set X KX S ha hL hal h1 (by simp only [List.length_cons] at few; omega) fun h' tk' S' => ?_
        refine ih fps ((f, v) :: fs) vs h' tk' Q hr S' (by simp only [List.length_cons] at few ⊢; omega) (fun q hq => hf q (List.mem_cons_of_mem _ hq)) hv.2 fun h2 tk2 S2 => done h2 tk2 ?_
        simpa using S2
end
end OL

set_option maxRecDepth 100000
set_option maxHeartbeats 4000000
/-! ## super().__init__() and the whole call of the class -/
namespace OL
open PySem PySem.W PySem.Calls PyProof.Rows
/-- the text of the __init__ -/
inductive XiB (sn : Str) (fps : List (Str × Str)) : List Stmt → Prop
  | at_ {p0 p1 p2 p3 p4 : Pos} {r : List Stmt} : (p2.endLine == p3.line) = true → XiR sn r fps → XiB sn fps (.Expr (.Call (.Attribute (.Call (.Name "super" p0) [] [] p1) "__init__" p2) [] [] p3) p4 :: r)
structure XiK (K : Frag) (prog : Program) (C fI : Addr) (initId : String) (fd : FuncData) (sn : Str) (ps : List Str) (fps : List (Str × Str)) : Prop where
  ini : findIn K (.ref C) "__init__" = some (some (.ref fI))
  fn : isFn K (.ref fI) = true
  lk : ∃ oc od osl, K.lookup fI = some ⟨oc, od, .func fd, osl⟩
  body : ∃ bd, fd.body = .stmts bd ∧ XiB sn fps bd
  par : (fd.params.posonlyargs ++ fd.params.args).head?.map (·.arg) = some sn
  glob : fd.globals = mainGlobals
  blt : fd.builtins = builtinsNs
  cell : ∃ cc cl cld csl, fd.closure.lookup ("__class__" : Str) = some cc ∧ K.lookup cc = some ⟨cl, cld, .cell (some (.ref C)), csl⟩
  rec_ : codeIn K fd.code fd.qualname = true
  code : ∃ cda ccl cdd vs ccs file tf, fd.code = .ref cda ∧ K.lookup cda = some ⟨ccl, cdd, .fields vs, ccs⟩ ∧ vs[2]? = some (.str file tf) ∧ ((prog.main.file : Str) == file) = true
  kind : fd.scope.kind = .function
  co : fd.scope.isCoroutine = false
  gen : fd.scope.isGenerator = false
  nocell : ∀ x ∈ fd.scope.names, x.2 ≠ .cell
  sup : fd.scope.names.lookup ("super" : Str) = some .globalImplicit
  cl_ : fd.scope.names.lookup ("__class__" : Str) = some .free
  loc : ∀ x ∈ ps, fd.scope.names.lookup x = some .local
  nodup : ps.Nodup
  fld : ∀ q ∈ fps, findIn K (.ref C) q.1 = some none ∧ q.2 ∈ ps ∧ (q.2 == ("__debug__" : Str)) = false
  few : fps.length ≤ 900
  self : ∃ r, ps = sn :: r
  sdb : (sn == ("__debug__" : Str)) = false
  step : ks_superIn K C C "__init__" = some (some (.builtin initId))
  mro : mroIn K C (.ref C) = some true
  noS : nsIn K mainGlobals "super" = some none
  top : (prog.main.scope.names.lookup ("super" : Str)).isSome = false
theorem boot_super : bootBuiltins "super" = some (.type "super") := by kernel_rfl
section
variable {prog : Program} {w : World} {A : Around} {E : Value → Shared → Prop} {h0 hp : Heap} {g : Array GenState} {d : Drawn} {t : Nat} {os : OsState} {K : Frag} {L a C fI : Addr} {mg mb m : Str → Option Value} {B newId initId : String} {bmB : List Value} {fd : FuncData} {sn : Str} {ps : List Str} {fps : List (Str × Str)}
/-- super().__init__() -/
theorem xi_super {body : List Stmt} {p0 p1 p2 p3 p4 : Pos} {ta : Addr} {Q : Flow → Shared → Prop} (X : XcK K C B newId initId bmB) (Y : XiK K prog C fI initId fd sn ps fps) (KX : K.In h0) (hg : h0.Ns mainGlobals mg) (hb : h0.Ns builtinsNs mb) (hv : mb "super" = some (.type "super"))
    (keep : ∀ b o, h0.get? b = some o → hp.get? b = some o) (ns : hp.Ns L m) (hx : hp.get? a = some (excObj C ta none .none)) (ha : h0.objs.size ≤ a) (hL : h0.objs.size ≤ L) (hal : a ≠ L) (hms : m sn = some (.ref a))
    (hpl : (p2.endLine == p3.line) = true) (done : ∀ h' tk', XSt h0 L a C m [] h' → Q .next ⟨h', g, d, tk', os⟩) :
    _root_.PySem.wpAt (model prog w) A (.func body (callEnv fd L fI)) (exec (.Expr (.Call (.Attribute (.Call (.Name "super" p0) [] [] p1) "__init__" p2) [] [] p3) p4) (callEnv fd L fI)) Q E ⟨hp, g, d, t, os⟩ := by
  have KH : K.In hp := KX.keeps keep
  obtain ⟨oc, od, osl, hf⟩ := Y.lk
  obtain ⟨cc, cl, cld, csl, hc1, hc2⟩ := Y.cell
  obtain ⟨cda, ccl, cdd, vs, ccs, file, tf, hd1, hd2, hd3, hd4⟩ := Y.code
  obtain ⟨ar, har, hsn⟩ := Option.map_eq_some_iff.mp Y.par
  obtain ⟨cdC, hcC⟩ : ∃ cd, clsIn K C = some cd := by
    have := X.ov
    unfold excOver at this
    cases q : clsIn K C with
    | none => rw [q] at this; cases this
    | some cd => exact ⟨cd, rfl⟩
  obtain ⟨oD, hD1, hD2⟩ : ∃ oD, hp.get? C = some oD ∧ oD.data = .cls cdC := by
    unfold clsIn at hcC
    split at hcC
    · rename_i ho
      cases hcC
      exact ⟨_, KH _ _ ho, rfl⟩
    · cases hcC
  have hsl : fd.scope.names.lookup ar.arg = some .local := by
    rw [hsn]
    obtain ⟨r, e⟩ := Y.self
    exact Y.loc sn (by rw [e]; exact List.mem_cons_self ..)
  have fresh : ∀ {b : Addr}, h0.objs.size ≤ b → h0.get? b = none := fun {b} hb => by
    cases z : h0.get? b with
    | none => rfl
    | some o => exact absurd (Heap.lt_size z) (Nat.not_lt.mpr hb)
  have hev : eval (.Call (.Attribute (.Call (.Name "super" p0) [] [] p1) "__init__" p2) [] [] p3) (callEnv fd L fI) = (do
      let ov ← attributeBase (.Call (.Name "super" p0) [] [] p1) "__init__" (callEnv fd L fI) (eval (.Call (.Name "super" p0) [] [] p1) (callEnv fd L fI))
      standAt p2.atName
      let (f, first) ← holding [ov] (getMethod ov "__init__" (L2.plainOf (.Call (.Name "super" p0) [] [] p1) (callEnv fd L fI)))
      callWith p3 f first (backTo p3 (starEach [] (callEnv fd L fI))) []) := by
    rw [arm_eval_Call]
    have hm : methodCallForm (([] : List Expr).length + ([] : List Keyword).length) (backTo p3 (starEach [] (callEnv fd L fI))) (backToKw p3 (keywordEach [] (callEnv fd L fI))) = true := by rfl
    simp only [L2.mcall_line hm hpl]
    rfl
  have hint : interactive (callEnv fd L fI) = false := by
    show (fd.scope.kind == .module && _) = false
    rw [Y.kind]
    rfl
  refine ks_wpAt_Expr_any (ks_wpAt_MethodCall ?_ hev) hint rfl
  refine ks_wpAt_super_base (env := callEnv fd L fI) Y.sup Y.cl_ (by decide) rfl (KH _ _ hf) rfl har hd1 (KH _ _ hd2) rfl hd3 hd4 Y.top ?_
  refine ks_loadName_global Y.kind Y.sup ?_
  have gl : (callEnv fd L fI).globals = mainGlobals := Y.glob
  have bl : (callEnv fd L fI).builtins = builtinsNs := Y.blt
  refine loadGlobal_builtin (env := callEnv fd L fI) (mg := mg) (mb := mb) (by rw [gl]; exact hg.keeps keep) (mg_none_of KX hg Y.noS) (by rw [bl]; exact hb.keeps keep) hv ⟨rfl, ?_⟩
  refine wpAny_loadName_free Y.kind Y.cl_ hc1 ⟨_, KH _ _ hc2, rfl⟩ ?_
  refine wpAny_loadName_local (env := callEnv fd L fI) (m := m) Y.kind hsl ns (by rw [hsn]; exact hms) ?_
  refine ks_wpAny_isType_cls hD1 hD2 ⟨rfl, ?_⟩
  refine ks_wpAny_call_super hD1 hD2 hx rfl (fun c e => by cases e) (looks_mroIn KH Y.mro) (fun h2 e k => ?_)
  have F2 : Fr h0 L h2 m := by
    obtain ⟨oL, es, ep, e1, r⟩ := ns
    exact ⟨⟨oL, es, ep, k _ _ e1, r⟩, fun b o z => k b o (keep b o z), hL⟩
  have lL : L < hp.objs.size := by
    obtain ⟨oL, es, ep, e1, r⟩ := ns
    exact Heap.lt_size e1
  have N2 : News h0 L h2 [(hp.objs.size, ks_superObj C a C), (a, excObj C ta none .none)] := fun p hp' => by
    rcases List.mem_cons.mp hp' with rfl | hp'
    · exact ⟨e, (Nat.ne_of_lt lL).symm, fresh (Nat.le_of_lt (Nat.lt_of_le_of_lt hL lL))⟩
    · rcases List.mem_cons.mp hp' with rfl | hp'
      · exact ⟨k _ _ hx, hal, fresh ha⟩
      · cases hp'
  have I2 : InstAt h2 a (excObj C ta none .none) C none := ⟨k _ _ hx, rfl, rfl, trivial⟩
  refine kxs_method (s := ⟨h2, g, d, t, os⟩) X.xfac F2 KX N2 (List.mem_cons_self ..) I2 X.opq Y.step X.subB (by decide) fun q h3 F3 N3 lt3 => ?_
  refine kxs_callWith0 N3 (List.mem_cons_self ..) ?_
  have lta := lt3 (a, excObj C ta none .none) (by simp)
  have lta2 : a < hp.objs.size := Heap.lt_size hx
  refine kxs_call (s := ⟨h3, g, d, t + 1, os⟩) (c2 := .none) (dv := none) (t := ta) F3 KX N3 X.base X.cls (List.mem_cons_self ..) (.tail (Nat.ne_of_gt lta) (.tail (Nat.ne_of_gt lta2) (.head (by simp)))) (by simp [sizeLine_eq]) fun t' h4 F4 N4 lt4 => ?_
  exact done h4 (t + 1) ⟨F4.keep, F4.ns, t', none, (N4 (a, excObj C t' none .none) (by simp)).1, rfl⟩
/-- the call of the __init__ -/
theorem xi_call {args : Args} {us : List Value} {ta : Addr} {R : Result → Shared → Prop} (X : XcK K C B newId initId bmB) (Y : XiK K prog C fI initId fd sn ps fps) (KX : K.In h0) (hg : h0.Ns mainGlobals mg) (hb : h0.Ns builtinsNs mb) (hv : mb "super" = some (.type "super")) (hlim : h0.NoLimit)
    (hroom : A.depth < recursionLimit) (keep : ∀ b o, h0.get? b = some o → hp.get? b = some o) (hx : hp.get? a = some (excObj C ta none .none)) (ha : h0.objs.size ≤ a) (hbind : BindsTo ⟨hp, g, d, t, os⟩ fd args (ps.zip (.ref a :: us))) (hl : (Value.ref a :: us).length = ps.length) (vs : List Value) (hvs : fps.map (fun q => (ps.zip (.ref a :: us)).lookup q.2) = vs.map some)
    (done : ∀ h' tk' tb dd mA, (∀ b o, h0.get? b = some o → h'.get? b = some o) → h'.get? a = some (excObj C tb dd .none) → (match dd with
      | none => fps = []
      | some x => h0.objs.size ≤ x ∧ x ≠ a ∧ h'.Ns1 x mA ∧ ∀ f, mA f = (((fps.map (·.1)).zip vs).reverse).lookup f) → R (.ok (.ret .none)) ⟨h', g, d, tk', os⟩) :
    codeAny (model prog w) A (.call (.ref fI) args) R ⟨hp, g, d, t, os⟩ := by
  have KH : K.In hp := KX.keeps keep
  obtain ⟨oc, od, osl, hf⟩ := Y.lk
  obtain ⟨bd, hbd, hB⟩ := Y.body
  refine ks_codeAny_call_defAt (fd := fd) (body := bd) (binds := ps.zip (.ref a :: us)) hroom (KH _ _ hf) rfl (hlim.keeps keep) (codeRec_of KH Y.rec_) hbd hbind Y.nocell (fun x hx => Y.loc x.1 (List.of_mem_zip hx).1) (fun h1 hns k1 => ?_) Y.co Y.gen Y.kind
  cases hB with
  | @at_ p0 p1 p2 p3 p4 r hpl hr =>
    have rev : ∀ x, (ps.zip (Value.ref a :: us)).reverse.lookup x = (ps.zip (Value.ref a :: us)).lookup x := fun x => PySem.lookup_reverse_of_nodup _ (by rw [List.map_fst_zip (by omega)]; exact Y.nodup) x
    have hL : h0.objs.size ≤ hp.objs.size := Nat.le_of_lt (Nat.lt_of_le_of_lt ha (Heap.lt_size hx))
    have hal : a ≠ hp.objs.size := Nat.ne_of_lt (Heap.lt_size hx)
    obtain ⟨rp, eself⟩ := Y.self
    have hms : (ps.zip (Value.ref a :: us)).reverse.lookup sn = some (.ref a) := by
      rw [rev, eself]
      simp [List.lookup]
    refine ks_wpAt_execs_cons (xi_super (ta := ta) X Y KX hg hb hv (fun b o e => k1 b o (keep b o e)) hns (k1 _ _ hx) ha hL hal hms hpl fun h' tk' S => ?_)
    refine PySem.wpAt_of_wpAny (xi_rest (env := callEnv fd hp.objs.size fI) X KX ha hL hal Y.kind rfl (Y.loc sn (by rw [eself]; exact List.mem_cons_self ..)) hms Y.sdb r fps [] vs h' tk' _ hr S (by simpa using Y.few) (fun q hq => ⟨(Y.fld q hq).1, Y.loc _ (Y.fld q hq).2.1, (Y.fld q hq).2.2⟩) ?_ fun h2 tk2 S2 => ?_)
    · rw [← hvs]
      apply List.map_congr_left
      intro q hq
      exact rev q.2
    · obtain ⟨tb, dd, e1, e2⟩ := S2.at_
      cases dd with
      | none =>
        refine done h2 tk2 tb none (fun _ => none) S2.keep e1 ?_
        have e2 : ((fps.map (·.1)).zip vs).reverse ++ [] = [] := e2
        simp only [List.append_nil, List.reverse_eq_nil_iff, List.zip_eq_nil_iff, List.map_eq_nil_iff] at e2
        rcases e2 with e2 | e2
        · exact e2
        · subst e2
          simpa using hvs
      | some x =>
        obtain ⟨_, q1, q2, _, mA, q3, q4⟩ := e2
        exact done h2 tk2 tb (some x) mA S2.keep e1 ⟨q1, q2, q3, fun f => by rw [q4 f]; simp⟩
/-- C(..) -/
theorem xc_call {pos : List Value} {kw : List (Str × Value)} {us vs : List Value} {R : Result → Shared → Prop} (X : XcK K C B newId initId bmB) (Y : XiK K prog C fI initId fd sn ps fps) (KX : K.In hp) (hg : hp.Ns mainGlobals mg) (hb : hp.Ns builtinsNs mb) (hv : mb "super" = some (.type "super")) (hlim : hp.NoLimit)
    (hroom : (A.under (.builtin "type.__call__" ⟨.ref C :: pos, kw⟩)).depth < recursionLimit) (few : pos.length ≤ sizeLine) (hbind : BindsTo ⟨(hp.push (kdv_tup pos)).push (HandSPX.excO C hp.objs.size), g, d, t, os⟩ fd ⟨.ref (hp.objs.size + 1) :: pos, kw⟩ (ps.zip (.ref (hp.objs.size + 1) :: us))) (hl : us.length + 1 = ps.length)
    (hvs : fps.map (fun q => (ps.zip (.ref (hp.objs.size + 1) :: us)).lookup q.2) = vs.map some)
    (done : ∀ h' tk' tb dd mA, (∀ b o, hp.get? b = some o → h'.get? b = some o) → h'.get? (hp.objs.size + 1) = some (excObj C tb dd .none) → (match dd with
      | none => fps = []
      | some x => hp.objs.size ≤ x ∧ x ≠ hp.objs.size + 1 ∧ h'.Ns1 x mA ∧ ∀ f, mA f = (((fps.map (·.1)).zip vs).reverse).lookup f) → R (.ok (.ret (.ref (hp.objs.size + 1)))) ⟨h', g, d, tk', os⟩) :
    codeAny (model prog w) A (.call (.ref C) ⟨pos, kw⟩) R ⟨hp, g, d, t, os⟩ := by
  obtain ⟨nm, N', qn, bs, bm, hdct, sn', sub, ab, col, dd, k0, k1, k2, k3, k5, hC, hT⟩ := excInit_of KX X.cls
  obtain ⟨oI, hoI, hcI⟩ : ∃ oI, hp.get? fI = some oI ∧ oI.cls = .type "function" := by
    obtain ⟨o, ho, hc⟩ := Option.map_eq_some_iff.mp (show (K.lookup fI).map (·.cls) = some (.type "function") from beq_iff_eq.mp Y.fn)
    exact ⟨o, KX _ _ ho, hc⟩
  have up : ∀ b o, hp.get? b = some o → ((hp.push (kdv_tup pos)).push (HandSPX.excO C hp.objs.size)).get? b = some o := fun b o e => Heap.get?_push_of_some _ (Heap.get?_push_of_some _ e)
  have got : ((hp.push (kdv_tup pos)).push (HandSPX.excO C hp.objs.size)).get? (hp.objs.size + 1) = some (HandSPX.excO C hp.objs.size) := by heap_get
  refine xm_call X.base hT hC (looks_findIn KX Y.ini) (fun self => exc_bind hoI hcI self) few ?_
  refine xi_call (ta := hp.objs.size) X Y KX hg hb hv hlim hroom up got (Nat.le_succ _) hbind (by simpa using hl) vs hvs fun h' tk' tb dd mA k e1 e2 => ?_
  exact ⟨rfl, done h' tk' tb dd mA k e1 e2⟩
end
end OL
set_option maxRecDepth 100000
set_option maxHeartbeats 0
/-! ## exceptions as values -/
namespace OL
open PySem PySem.Spec
open PyProof.Rows L2
theorem xo_ok {P : Program} {w : World} {H : Hp} {h : Heap} {a : Addr} {oe : Obj} (e : h.get? a = some oe) : ObjOk P w H h a (xo a oe) :=
  ⟨e, ⟨_, e⟩, fun h1 h2 z k => k _ z⟩
section
variable {X : Cx} {pins : List (Addr × Obj)} {sg : L2.St} {H : Hp} {s : Shared}
/-- an exception with its dict has come to be -/
theorem inv_xv {h' : Heap} {a x : Addr} {oe : Obj} {fs : List (Str × V)} {mA : Str → Option Value} {t' : Nat} (I : Inv X pins sg H s) (k : ∀ b o, s.heap.get? b = some o → h'.get? b = some o) (ha : s.heap.objs.size ≤ a) (hx : s.heap.objs.size ≤ x) (ne : x ≠ a) (e1 : h'.get? a = some oe) (e2 : h'.Ns1 x mA)
    (rel : ∀ f, RelO (fs.lookup f) (mA f)) : Inv X pins sg (upd (upd H x (.xd fs)) a (xo a oe)) { s with heap := h', toks := t' } := by
  have fr : ∀ {b : Addr}, s.heap.objs.size ≤ b → s.heap.get? b = none := fun {b} hb => by
    cases z : s.heap.get? b with
    | none => rfl
    | some o => exact absurd (Heap.lt_size z) (Nat.not_lt.mpr hb)
  obtain ⟨G, g1, g2⟩ := restrict h' fun b => decide (b ≠ a)
  have gk : ∀ b, b ≠ a → G.get? b = h'.get? b := fun b hb => g1 b (decide_eq_true hb)
  have ge : G.get? a = none := g2 a (by simp)
  have na : ∀ {b : Addr} {o : Obj}, s.heap.get? b = some o → b ≠ a := fun {b o} z => Nat.ne_of_lt (Nat.lt_of_lt_of_le (Heap.lt_size z) ha)
  have hn : H x = none := I.hok.fresh hx
  have hna : H a = none := I.hok.fresh ha
  have I1 := I.laidN (t' := t') (h' := G) (a := x) (o := .xd fs) (fun b o z => by rw [gk b (na z)]; exact k b o z) (fr hx) hn ⟨mA, e2.at fun o y => (gk x ne).trans y, rel⟩
  exact I1.laidN (t' := t') (h' := h') (a := a) (o := xo a oe) (fun b o z => by
    by_cases hb : b = a
    · rw [hb, ge] at z; cases z
    · rw [← gk b hb]; exact z) ge (by rw [upd_ne (Ne.symm ne)]; exact hna) (xo_ok e1)
end
/-! ### the __init__ of such a class takes its arguments by position and by keyword -/
theorem xi_shape {K : PySem.W.Frag} {fd : FuncData} {ps ks : List Str} {n : Nat} (hp : plainP fd.params ps = true) (hd : fd.defaults = .none) (ok : allOk ps ks n 0 = true) : ShapeOk K fd ps n ks (selOf ps ks n []) := by
  intro s us ws vs KX hu hw rv
  have F := @bind_plain fd.name fd.qualname fd.params [] fd.scope .none fd.kwdefaults fd.doc fd.pyModule fd.code fd.closureTuple fd.annotations ps ks us ws 0 hp (by rw [hu]; exact ok) hw
  obtain ⟨v1, v2, rfl, r1, r2⟩ : ∃ v1 v2, vs = v1 ++ v2 ∧ Vals v1 us ∧ Vals v2 ws := by
    have : ∀ {us ws : List Value} {vs : List V}, Vals vs (us ++ ws) → ∃ v1 v2, vs = v1 ++ v2 ∧ Vals v1 us ∧ Vals v2 ws := by
      intro us
      induction us with
      | nil => intro ws vs h; exact ⟨[], vs, rfl, .nil, h⟩
      | cons u us ih =>
        intro ws vs h
        cases h with
        | cons a b =>
          obtain ⟨p, q, e, h1, h2⟩ := ih b
          exact ⟨_ :: p, q, by rw [e]; rfl, .cons a h1, h2⟩
    exact this rv
  have l1 := r1.length
  subst hu
  obtain ⟨k, e1, e2⟩ := F
  have sel : (selOf ps ks us.length []).map (selV (v1 ++ v2)) = zsOf V.non ps ks us.length 0 v1 v2 [] := by
    rw [sel_zs l1]
    unfold zsOf
    apply List.map_congr_left
    intro x _
    cases q : (slotIx ps ks us.length ([] : List PV).length).lookup x with
    | none => rfl
    | some t =>
      have q : (slotIx ps ks us.length 0).lookup x = some t := q
      cases t with
      | u i =>
        have := lookup_u q
        show (v1 ++ v2).getD i .non = v1.getD i .non
        rw [List.getD_eq_getElem?_getD, List.getD_eq_getElem?_getD, List.getElem?_append_left (by omega)]
      | w i => rfl
      | d i => rfl
  refine ⟨zsOf .none ps ks us.length 0 us ws [], ?_, by rw [sel]; exact zs_vals r1 r2 .nil⟩
  refine .of_eq ?_
  have e0 : bindArgs fd ⟨us, ks.zip ws⟩ = bindArgs (PySem.W.fnOf fd.name fd.qualname fd.params [] fd.scope .none fd.kwdefaults fd.doc fd.pyModule fd.annotations fd.code fd.closureTuple) ⟨us, ks.zip ws⟩ := by
    rw [← hd]
    rfl
  rw [e0, e1]
  exact e2 none rfl
/-- the i-th parameter's value -/
theorem zip_self2 {sn : Str} {v0 : Value} : ∀ {ps : List Str} {us : List Value}, ps.Nodup → sn ∉ ps → us.length = ps.length → (ps.map fun p => ((sn :: ps).zip (v0 :: us)).lookup p) = us.map some := fun {ps us} nd hn hl => by
  have key : ∀ (ps : List Str) (us : List Value), ps.Nodup → us.length = ps.length → (ps.map fun p => (ps.zip us).lookup p) = us.map some := by
    intro ps
    induction ps with
    | nil => intro us _ hl; cases us with
      | nil => rfl
      | cons _ _ => cases hl
    | cons p ps ih =>
      intro us nd hl
      cases us with
      | nil => cases hl
      | cons u us =>
        rw [List.nodup_cons] at nd
        simp only [List.map_cons, List.zip_cons_cons, List.lookup_cons, beq_self_eq_true]
        congr 1
        rw [← ih us nd.2 (by simpa using hl)]
        apply List.map_congr_left
        intro x hx
        have hb : (x == p) = false := beq_eq_false_iff_ne.mpr fun e => nd.1 (by rw [← e]; exact hx)
        rw [hb]
  rw [← key ps us nd hl]
  apply List.map_congr_left
  intro x hx
  have hb : (x == sn) = false := beq_eq_false_iff_ne.mpr fun e => hn (by rw [← e]; exact hx)
  rw [List.zip_cons_cons, List.lookup_cons, hb]
theorem vals_rev {vs : List V} {us : List Value} (h : Vals vs us) : Vals vs.reverse us.reverse := by
  induction h with
  | nil => exact .nil
  | cons h t ih => rw [List.reverse_cons, List.reverse_cons]; exact ih.append (.cons h .nil)
theorem repvs_rev {R : RC} {rho : Rho} {H : Hp} : ∀ {xs : List PV} {vs : List V}, RepVs R rho H xs vs → RepVs R rho H xs.reverse vs.reverse
  | [], vs, h => by simp only [RepVs] at h; subst h; simp [RepVs]
  | x :: xs, vs, h => by
    simp only [RepVs] at h
    obtain ⟨v, r, e, h1, h2⟩ := h
    subst e
    rw [List.reverse_cons, List.reverse_cons]
    exact (repvs_rev h2).append (RepVs.cons h1 (by simp only [RepVs]))
theorem relo_zip : ∀ {fs : List Str} {vs : List V} {us : List Value}, Vals vs us → ∀ f, RelO ((fs.zip vs).lookup f) ((fs.zip us).lookup f)
  | [], vs, us, h, f => by simp [RelO]
  | g :: fs, vs, us, h, f => by
    cases h with
    | nil => simp [RelO]
    | cons h t =>
      simp only [List.zip_cons_cons, List.lookup_cons]
      cases f == g with
      | true => exact h
      | false => exact relo_zip t f
theorem zip_rev {α β : Type} : ∀ {as : List α} {bs : List β}, as.length = bs.length → (as.zip bs).reverse = as.reverse.zip bs.reverse
  | [], [], _ => rfl
  | a :: as, b :: bs, h => by
    have h : as.length = bs.length := by simpa using h
    rw [List.zip_cons_cons, List.reverse_cons, List.reverse_cons, List.reverse_cons, zip_rev h]
    rw [List.zip_append (by simpa using h)]
    rfl
  | [], _ :: _, h => by cases h
  | _ :: _, [], h => by cases h
/-- what is known of a class of exceptions: C, its parameters, its fields (the last first) -/
structure XcOk (R : RC) (K : PySem.W.Frag) (P : Program) (c : Nat) (ps : List Str) (ks : List Nat) : Prop where
  ex : ∃ (B newId initId : String) (bmB : List Value) (fI : Addr) (fd : FuncData) (sn : Str) (pr : List Str), XcK K (R.cA c) B newId initId bmB ∧ XiK K P (R.cA c) fI initId fd sn ps (((ks.map R.aN).reverse).zip pr) ∧ ps = sn :: pr ∧ pr.length = ks.length ∧
    plainP fd.params ps = true ∧ fd.defaults = .none ∧ pr ≠ []
  keep : PySem.W.keepIn K (.ref (R.cA c)) = true
  exC : PySem.W.subIn K (.ref (R.cA c)) (.type "BaseException") = some true
  tyC : PySem.W.typeIn K (.ref (R.cA c)) = some (.type "type")
section
variable {R : RC} {W : WX} {X : Cx} {T : List FnI} {k : Nat} {hot : Bool} {F : CallT}
/-- C(..): the object and its dict stand in the heap -/
theorem run_mkX0 {c : Nat} {ps : List Str} {ks : List Nat} {pins : List (Addr × Obj)} {sg : L2.St} {H : Hp} {hp : Heap} {g : Array GenState} {d : Drawn} {t : Nat} {os : OsState} {P : Value → Shared → Prop} {us ws : List Value} {vs zs : List V} {rho : Rho} {ys : List PV} {nm : List Str} {sel : List Sel}
    (xc : XcOk R X.K X.prog c ps ks) (hr : RoomG hot 2 X.A) (I : Inv X pins sg H ⟨hp, g, d, t, os⟩) (ok : allOk ps nm (us.length + 1) 0 = true) (hse : selNew ps nm us.length [] = some sel) (r1 : Vals vs us) (r2 : Vals zs ws) (l2 : ws.length = nm.length) (few : us.length ≤ 1000) (ry : RepVs R rho H ys (sel.map (selV (vs ++ zs))))
    (hl : ys.length = ks.length)
    (hq : ∀ h' tk' tb x mA, (∀ b o, hp.get? b = some o → h'.get? b = some o) → h'.get? (hp.objs.size + 1) = some (PySem.W.excObj (R.cA c) tb (some x) .none) → hp.objs.size ≤ x → x ≠ hp.objs.size + 1 → h'.Ns1 x mA →
      (∀ f, RelO (((ks.map R.aN).zip (sel.map (selV (vs ++ zs))).reverse).lookup f) (mA f)) → P (.ref (hp.objs.size + 1)) ⟨h', g, d, tk', os⟩) :
    wpAny (model X.prog X.w) X.A (call (.ref (R.cA c)) us (nm.zip ws)) P X.xe ⟨hp, g, d, t, os⟩ := by
  obtain ⟨B, newId, initId, bmB, fI, fd, sn, pr, x1, x2, x3, x4, x5, x6, x7⟩ := xc.ex
  obtain ⟨mb, hb1, hb2⟩ := I.mod.blt
  have bk : ∀ b o, X.base.get? b = some o → hp.get? b = some o := I.bk
  have KX : X.K.In hp := I.kIn
  have up : ∀ b o, hp.get? b = some o → ((hp.push (PySem.W.kdv_tup us)).push (HandSPX.excO (R.cA c) hp.objs.size)).get? b = some o := fun b o e => Heap.get?_push_of_some _ (Heap.get?_push_of_some _ e)
  obtain ⟨zv, hbd, hv⟩ := new_bind (K := X.K) (fd := fd) (ps := ps) (ks := nm) (n := us.length) (dfl := []) (sel := sel) (xi_shape x5 x6 ok) hse ⟨(hp.push (PySem.W.kdv_tup us)).push (HandSPX.excO (R.cA c) hp.objs.size), g, d, t, os⟩ (hp.objs.size + 1) us ws vs zs (KX.keeps up) r1 r2 rfl l2
  have lz : zv.length = pr.length := by
    rw [x4, ← hl, ry.length, hv.length]
  have nd := x2.nodup
  rw [x3, List.nodup_cons] at nd
  have hf1 : ((ks.map R.aN).reverse.zip pr).map (·.1) = (ks.map R.aN).reverse := List.map_fst_zip (by simp [x4])
  have hf2 : ((ks.map R.aN).reverse.zip pr).map (·.2) = pr := List.map_snd_zip (by simp [x4])
  refine wpAny_call (PySem.codeAny_mono (xc_call (mg := X.mg) (mb := mb) (us := zv) (vs := zv) (R := wants P X.xe) x1 x2 KX (I.mod.glob.keeps bk) (hb1.keeps bk) ((hb2 _ (by decide)).trans boot_super) (I.mod.nolimit.keeps bk) (room_make (hr.mono (by omega : 1 + 1 ≤ 2)) _ _ _).depth (by rw [sizeLine_eq]; omega) hbd (by rw [x3, List.length_cons, lz]) ?_ ?_) fun r s' z => z)
  · rw [show (((ks.map R.aN).reverse.zip pr).map fun q => (ps.zip (Value.ref (hp.objs.size + 1) :: zv)).lookup q.2) = ((((ks.map R.aN).reverse.zip pr).map (·.2)).map fun p => (ps.zip (Value.ref (hp.objs.size + 1) :: zv)).lookup p) by rw [List.map_map]; rfl, hf2, x3]
    exact zip_self2 nd.2 nd.1 lz
  · intro h' tk' tb dd mA k e1 e2
    cases dd with
    | none =>
      have e2 : (ks.map R.aN).reverse.zip pr = [] := e2
      have : pr = [] := by rw [← hf2, e2]; rfl
      exact absurd this x7
    | some x =>
      obtain ⟨q1, q2, q3, q4⟩ := e2
      refine hq h' tk' tb x mA k e1 q1 q2 q3 fun f => ?_
      rw [q4 f, hf1, zip_rev (by simp [lz, x4]), List.reverse_reverse]
      exact relo_zip (vals_rev hv) f
/-- C(..) as a value -/
theorem run_makeX {c : Nat} {ps : List Str} {ks : List Nat} {pins : List (Addr × Obj)} {sg : L2.St} {H : Hp} {s : Shared} {Q : VK} {us ws : List Value} {vs zs : List V} {rho : Rho} {st : Sto} {ys : List PV} {nm : List Str} {sel : List Sel}
    (xc : XcOk R X.K X.prog c ps ks) (hr : RoomG hot 2 X.A) (I : Inv X pins sg H s) (ok : allOk ps nm (us.length + 1) 0 = true) (hse : selNew ps nm us.length [] = some sel) (r1 : Vals vs us) (r2 : Vals zs ws) (l2 : ws.length = nm.length) (few : us.length ≤ 1000) (S : StRep R rho st H) (ry : RepVs R rho H ys (sel.map (selV (vs ++ zs))))
    (hl : ys.length = ks.length) (hq : Good R (RepV R) rho H (.ok (mkX c ks ys) st) (fun cls d H' => W cls d sg H') Q) :
    wpAny (model X.prog X.w) X.A (call (.ref (R.cA c)) us (nm.zip ws)) (EP X pins sg Q) X.xe s := by
  obtain ⟨hp, g, d, t, os⟩ := s
  refine run_mkX0 xc hr I ok hse r1 r2 l2 few ry hl fun h' tk' tb x mA k e1 q1 q2 q3 rel => ?_
  have hna : H (hp.objs.size + 1) = none := I.hok.fresh (Nat.le_succ _)
  have hnx : H x = none := I.hok.fresh q1
  have I2 := inv_xv (t' := tk') (fs := (ks.map R.aN).zip (sel.map (selV (vs ++ zs))).reverse) I k (Nat.le_succ _) q1 q2 e1 q3 rel
  have S1 : StRep R rho st (upd H x (.xd ((ks.map R.aN).zip (sel.map (selV (vs ++ zs))).reverse))) := S.fresh hnx
  have hna1 : upd H x (.xd ((ks.map R.aN).zip (sel.map (selV (vs ++ zs))).reverse)) (hp.objs.size + 1) = none := by rw [upd_ne (Ne.symm q2)]; exact hna
  have M1 : Mono rho H rho (upd H x (.xd ((ks.map R.aN).zip (sel.map (selV (vs ++ zs))).reverse))) := Mono.fresh S hnx
  have M2 : Mono rho (upd H x (.xd ((ks.map R.aN).zip (sel.map (selV (vs ++ zs))).reverse))) rho (upd (upd H x (.xd ((ks.map R.aN).zip (sel.map (selV (vs ++ zs))).reverse))) (hp.objs.size + 1) (xo (hp.objs.size + 1) (PySem.W.excObj (R.cA c) tb (some x) .none))) := Mono.fresh S1 hna1
  refine ⟨.ref (hp.objs.size + 1), _, I2, rfl, hq rho _ _ (M1.trans M2) (S1.fresh hna1) ?_⟩
  unfold mkX
  simp only [RepV]
  refine ⟨hp.objs.size + 1, _, rfl, ⟨upd_same, S.deadOf hna, rfl, ⟨_, rfl⟩⟩, .inl ⟨x, (sel.map (selV (vs ++ zs))).reverse, rfl, by rw [upd_ne q2, upd_same], S.deadOf hnx, by simp [hl], ?_⟩⟩
  exact ((repvs_rev ry).mono M1).mono M2
/-- C(..) that is raised -/
theorem run_raiseX {c : Nat} {ps : List Str} {ks : List Nat} {pins : List (Addr × Obj)} {sg : L2.St} {H : Hp} {s : Shared} {Q : XK} {us ws : List Value} {vs zs : List V} {rho : Rho} {st : Sto} {ys : List PV} {nm : List Str} {sel : List Sel}
    (xc : XcOk R X.K X.prog c ps ks) (rs : Raises X (.ref (R.cA c))) (hr : RoomG hot 2 X.A) (I : Inv X pins sg H s) (ok : allOk ps nm (us.length + 1) 0 = true) (hse : selNew ps nm us.length [] = some sel) (r1 : Vals vs us) (r2 : Vals zs ws) (l2 : ws.length = nm.length) (few : us.length ≤ 1000) (S : StRep R rho st H) (ry : RepVs R rho H ys (sel.map (selV (vs ++ zs))))
    (hl : ys.length = ks.length) (hq : ∀ rho' H' cls d, Mono rho H rho' H' → StRep R rho' st H' → ExcRep R rho' H' c ks ys.reverse cls d → Q cls d H') :
    wpAny (model X.prog X.w) X.A (call (.ref (R.cA c)) us (nm.zip ws)) (fun u s' => L2N.MkP X pins sg Q u s' ∧ L2H.Six u s') X.xe s := by
  obtain ⟨hp, g, d, t, os⟩ := s
  refine run_mkX0 xc hr I ok hse r1 r2 l2 few ry hl fun h' tk' tb x mA k e1 q1 q2 q3 rel => ?_
  have hna : H (hp.objs.size + 1) = none := I.hok.fresh (Nat.le_succ _)
  have hnx : H x = none := I.hok.fresh q1
  obtain ⟨G, g1, g2⟩ := restrict h' fun b => decide (b ≠ hp.objs.size + 1)
  have gk : ∀ b, b ≠ hp.objs.size + 1 → G.get? b = h'.get? b := fun b hb => g1 b (decide_eq_true hb)
  have ge : G.get? (hp.objs.size + 1) = none := g2 _ (by simp)
  have na : ∀ {b : Addr} {o : Obj}, hp.get? b = some o → b ≠ hp.objs.size + 1 := fun {b o} z => Nat.ne_of_lt (Nat.lt_of_lt_of_le (Heap.lt_size z) (Nat.le_succ _))
  have fr : hp.get? x = none := by
    cases z : hp.get? x with
    | none => rfl
    | some o => exact absurd (Heap.lt_size z) (Nat.not_lt.mpr q1)
  have I1 := I.laidN (t' := tk') (h' := G) (a := x) (o := .xd ((ks.map R.aN).zip (sel.map (selV (vs ++ zs))).reverse)) (fun b o z => by rw [gk b (na z)]; exact k b o z) fr hnx ⟨mA, q3.at fun o y => (gk x q2).trans y, rel⟩
  have M1 : Mono rho H rho (upd H x (.xd ((ks.map R.aN).zip (sel.map (selV (vs ++ zs))).reverse))) := Mono.fresh S hnx
  refine ⟨⟨hp.objs.size + 1, _, _, ⟨G, g, d, tk', os⟩, _, .ref (R.cA c), some x, rfl, I1, fun b o z => ?_, ge, e1, ⟨rfl, rfl, fun vs e => by cases e; rfl⟩, rfl, rfl, by rw [upd_ne (Ne.symm q2)]; exact hna, rfl, I.bare, rs, hq rho _ _ _ M1 (S.fresh hnx) ⟨rfl, .inl ⟨x, (sel.map (selV (vs ++ zs))).reverse, rfl, upd_same, S.deadOf hnx, by simp [hl], (repvs_rev ry).mono M1⟩⟩⟩, fun a oe vs ea hg hd => ?_⟩
  · by_cases hb : b = hp.objs.size + 1
    · rw [hb, ge] at z; cases z
    · rw [← gk b hb]; exact z
  · cases ea
    have hg : h'.get? (hp.objs.size + 1) = some oe := hg
    rw [e1] at hg
    cases hg
    cases hd
    show (4 : Nat) < 6
    decide
/-- the arguments of C(..), by position and by name -/
theorem xargs_gen {c : Nat} {x : Str} {p pos : Pos} {es : List Expr} {kws : List Keyword} {as bs : List (D PV)} {ps : List Str} {ks : List Nat} {pins : List (Addr × Obj)} {s : Shared} {sg : L2.St} {H : Hp} {Pq : Value → Shared → Prop} {QL : List PV → Sto → Rho → Hp → Prop} (xc : XcOk R X.K X.prog c ps ks)
    (hg : Gl X x) (hm : X.mg x = some (.ref (R.cA c))) (hdb : (x == ("__debug__" : Str)) = false)
    (ha : PA X es (tL R F W (dArgs as))) (hb : PK X kws (tL R F W (dArgs bs))) (hkw : kwOk kws = true) (hbl : kws.length = bs.length) (hel : es.length = as.length)
    (hst : ∀ e r, es = e :: r → starEach es X.env = (false, eval e X.env) :: starEach r X.env) (hpl : (backTo pos (starEach es X.env)).any (·.1) = false) (I : Inv X pins sg H s)
    (h : ∃ rho st env, EnvRep R rho H env sg ∧ StRep R rho st H ∧ Good R (RepVs R) rho H (dArgs (as ++ bs) F env st) (fun cls d H' => W cls d sg H') (fun vs H2 => ∃ rho2 st2 xs, StRep R rho2 st2 H2 ∧ RepVs R rho2 H2 xs vs ∧ QL xs st2 rho2 H2))
    (fin : ∀ {us ws : List Value} {vs zs : List V} {s2 : Shared} {H2 : Hp}, Inv X pins sg H2 s2 → Vals vs us → Vals zs ws → us.length = as.length → ws.length = (kwNames kws).length → (∃ rho st xs, StRep R rho st H2 ∧ RepVs R rho H2 xs (vs ++ zs) ∧ QL xs st rho H2) →
      wpAny (model X.prog X.w) X.A (call (.ref (R.cA c)) us ((kwNames kws).zip ws)) Pq X.xe s2) :
    wpAny (model X.prog X.w) X.A (eval (.Call (.Name x p) es kws pos) X.env) Pq X.xe s := by
  refine wpAny_Call_Name_kw (ld_glob I hg hm ?_ hdb)
  obtain ⟨rho, st, env, hE, hS, g⟩ := h
  have h2 : tL R F W (dArgs as) sg H (fun vs H1 => vs.length = as.length ∧ tL R F W (dArgs bs) sg H1 fun zs H2 => zs.length = bs.length ∧ ∃ rho st xs, StRep R rho st H2 ∧ RepVs R rho H2 xs (vs ++ zs) ∧ QL xs st rho H2) := by
    rw [dArgs_app] at g
    refine ⟨rho, st, env, hE, hS, ?_⟩
    cases ea : dArgs as F env st with
    | bad => rw [ea] at g; exact g
    | exc _ _ _ _ => rw [ea] at g; exact g
    | ok xs s1 =>
      rw [ea] at g
      simp only [Res.bnd] at g
      refine fun rho1 H1 vs M1 S1 r1 => ⟨by rw [← r1.length, args_len ea], rho1, s1, env, hE.mono M1, S1, ?_⟩
      have g := Good.shift M1 g
      cases eb : dArgs bs F env s1 with
      | bad => rw [eb] at g; exact g
      | exc _ _ _ _ => rw [eb] at g; exact g
      | ok ys s2 =>
        rw [eb] at g
        exact fun rho2 H2 zs M2 S2 r2 => ⟨by rw [← r2.length, args_len eb], g rho2 H2 (vs ++ zs) M2 S2 ((r1.mono M2).append r2)⟩
  obtain ⟨k1, k2, k3⟩ := kw_all (env := X.env) (pos := pos) hkw
  cases es with
  | nil =>
    obtain rfl : as = [] := List.length_eq_zero_iff.mp hel.symm
    have h3 := te_argsNil _ h2
    obtain ⟨_, q⟩ : ([] : List V).length = 0 ∧ _ := h3
    refine PySem.W.callWith_KW0 (h₀ := X.base) I.ok.mod.kin xc.keep k1 ?_ (by rw [k2]; rfl)
    refine thn (hb.run pos pins s sg H _ I q) fun ws s2 ⟨zs, H2, I2, r2, l2, q2⟩ => ⟨I2.kIn, ?_⟩
    rw [k3]
    exact fin (us := []) (vs := []) I2 .nil r2 rfl (by rw [← r2.length, l2, kwNames_len hkw, hbl]) q2
  | cons e r =>
    refine PySem.W.callWith_KW (h₀ := X.base) I.ok.mod.kin xc.keep k1 (thn (ha.run pos pins s sg H _ I h2) fun us s1 ⟨vs, H1, I1, r1, l1, q⟩ => ?_) (by rw [hpl, k2]; rfl) (hst e r rfl)
    refine thn (hb.run pos pins s1 sg H1 _ I1 q) fun ws s2 ⟨zs, H2, I2, r2, l2, q2⟩ => ⟨I2.kIn, ?_⟩
    rw [k3]
    have lu : us.length = as.length := by rw [← r1.length, l1]
    exact fin (us := us) I2 r1 r2 lu (by rw [← r2.length, l2, kwNames_len hkw, hbl]) q2
theorem sel_flat0 {ps : List Str} {nm : List Str} {n : Nat} {sel : List Sel} (hse : selNew ps nm n [] = some sel) : sel.all flatSel = true := by
  have hf := sel_flat (ps := ps) (ks := nm) (n := n + 1) (dfl := []) rfl
  unfold selNew at hse
  split at hse
  · rename_i r er
    split at hse
    · cases hse
      rw [er] at hf
      simp only [List.all_cons, Bool.and_eq_true] at hf
      rw [List.all_map]
      apply List.all_eq_true.mpr
      intro t ht
      have := List.all_eq_true.mp hf.2 t ht
      cases t with
      | a i => rfl
      | d v => exact this
    · cases hse
  · cases hse
theorem mkp_old {pins : List (Addr × Obj)} {sg : L2.St} {Q : XK} {u : Value} {s' : Shared} (h : L2N.MkP X pins sg Q u s') : L2.MkP X pins sg Q u s' := by
  obtain ⟨a, oe, vs, sI, H', cls, d, e1, e2, e3, e4, e5, e6, e7⟩ := h
  exact ⟨a, oe, vs, sI, H', cls, d, e1, e2, e3, e4, e5, e6.zc, e7⟩
theorem ps_raisem {nc : Bool} {e : Expr} {t : L2.St → Hp → XK → Prop} {pos : Pos} (hc : X.calm = true) (tk : Takesm nc X W) (he : L2H.PMk5 X e t) : PS X (.Raise (some e) none pos) (fun _ sg H => t sg H fun cls d H' => W cls d sg H') := by
  cases nc
  · exact L2.ps_raise hc tk fun pins s sg H Q I q => thn (he pins s sg H Q I q) fun _ _ x => mkp_old x.1
  · exact L2N.ps_raise hc tk he.pmk
section
variable {c : Nat} {x : Str} {p pos rp : Pos} {es : List Expr} {kws : List Keyword} {as bs : List (D PV)} {ps : List Str} {ks : List Nat} {sel : List Sel}
/-- what C(..) makes, to be raised -/
def tMk (R : RC) (F : CallT) (W : WX) (c : Nat) (ks : List Nat) (as : List (D PV)) (sel : List Sel) : L2.St → Hp → XK → Prop := fun sg H Q => ∃ rho st env, EnvRep R rho H env sg ∧ StRep R rho st H ∧ Good R (RepVs R) rho H (dArgs as F env st) (fun cls d H' => W cls d sg H') (fun vs H2 => ∃ rho2 st2 xs, StRep R rho2 st2 H2 ∧ RepVs R rho2 H2 xs vs ∧
      ∃ ys, pick xs sel = some ys ∧ ys.length = ks.length ∧ ∀ rho' H' cls d, Mono rho2 H2 rho' H' → StRep R rho' st2 H' → ExcRep R rho' H' c ks ys.reverse cls d → Q cls d H')
theorem mk_xraise (xc : XcOk R X.K X.prog c ps ks) (hr : RoomG hot 2 X.A)
    (hg : Gl X x) (hm : X.mg x = some (.ref (R.cA c))) (hdb : (x == ("__debug__" : Str)) = false) (ok : allOk ps (kwNames kws) (as.length + 1) 0 = true) (hse : selNew ps (kwNames kws) as.length [] = some sel)
    (ha : PA X es (tL R F W (dArgs as))) (hb : PK X kws (tL R F W (dArgs bs))) (hkw : kwOk kws = true) (hbl : kws.length = bs.length) (hel : es.length = as.length)
    (hst : ∀ e r, es = e :: r → starEach es X.env = (false, eval e X.env) :: starEach r X.env) (hpl : (backTo pos (starEach es X.env)).any (·.1) = false) (few : as.length ≤ 1000) :
    L2H.PMk5 X (.Call (.Name x p) es kws pos) (tMk R F W c ks (as ++ bs) sel) := by
  intro pins s sg H Q I h
  refine xargs_gen (QL := fun xs st2 rho2 H2 => ∃ ys, pick xs sel = some ys ∧ ys.length = ks.length ∧ ∀ rho' H' cls d, Mono rho2 H2 rho' H' → StRep R rho' st2 H' → ExcRep R rho' H' c ks ys.reverse cls d → Q cls d H') xc hg hm hdb ha hb hkw hbl hel hst hpl I h ?_
  intro us ws vs zs s2 H2 I2 r1 r2 lu lw ⟨rho, st, xs, S, rx, ys, ep, hy, q⟩
  exact run_raiseX xc (raises_own xc.exC xc.tyC) hr I2 (by rw [lu]; exact ok) (by rw [lu]; exact hse) r1 r2 lw (by omega) S (pick_ok rx (sel_flat0 hse) ep) hy q
theorem ts_raise {En : Ends} {sg : L2.St} {H : Hp} (h : tS R F W (sRaise (dXNew c ks as sel)) En sg H) : tMk R F W c ks as sel sg H (fun cls d H' => W cls d sg H') := by
  obtain ⟨rho, st, env, hE, hS, g⟩ := h
  refine ⟨rho, st, env, hE, hS, ?_⟩
  unfold sRaise dXNew at g
  cases ea : dArgs as F env st with
  | bad => rw [ea] at g; exact g
  | exc c' ks' xs' s' =>
    rw [ea] at g
    exact fun rho' H' cls d M S e => g rho' H' sg cls d M S (hE.mono M) e
  | ok xs s' =>
    rw [ea] at g
    simp only [Res.bnd] at g
    cases ep : pick xs sel with
    | none => rw [ep] at g; exact g.elim
    | some ys =>
      rw [ep] at g
      simp only at g
      split at g
      · rename_i hy
        refine fun rho' H' vs M S r => ⟨rho', s', xs, S, r, ys, ep, hy, fun rho2 H2 cls d M2 S2 e => ?_⟩
        exact g rho2 H2 sg cls d (M.trans M2) S2 ((hE.mono M).mono M2) e
      · exact g.elim
end
theorem pe_xnewG {c : Nat} {x : Str} {p pos : Pos} {es : List Expr} {kws : List Keyword} {as bs : List (D PV)} {ps : List Str} {ks : List Nat} {sel : List Sel} (xc : XcOk R X.K X.prog c ps ks) (hr : RoomG hot 2 X.A)
    (hg : Gl X x) (hm : X.mg x = some (.ref (R.cA c))) (hdb : (x == ("__debug__" : Str)) = false) (ok : allOk ps (kwNames kws) (as.length + 1) 0 = true) (hse : selNew ps (kwNames kws) as.length [] = some sel)
    (ha : PA X es (tL R F W (dArgs as))) (hb : PK X kws (tL R F W (dArgs bs))) (hkw : kwOk kws = true) (hbl : kws.length = bs.length) (hel : es.length = as.length)
    (hst : ∀ e r, es = e :: r → starEach es X.env = (false, eval e X.env) :: starEach r X.env) (hpl : (backTo pos (starEach es X.env)).any (·.1) = false) (few : as.length ≤ 1000) :
    PE X (.Call (.Name x p) es kws pos) (tE R F W (dXNew c ks (as ++ bs) sel)) := by
  refine ⟨fun pins s sg H Q I h => ?_⟩
  refine wpAny_Call_Name_kw (ld_glob I hg hm ?_ hdb)
  have h2 := tl_kw h
  obtain ⟨k1, k2, k3⟩ := kw_all (env := X.env) (pos := pos) hkw
  have sflat : sel.all flatSel = true := by
    have hf := sel_flat (ps := ps) (ks := kwNames kws) (n := as.length + 1) (dfl := []) rfl
    unfold selNew at hse
    split at hse
    · rename_i r er
      split at hse
      · cases hse
        rw [er] at hf
        simp only [List.all_cons, Bool.and_eq_true] at hf
        rw [List.all_map]
        apply List.all_eq_true.mpr
        intro t ht
        have := List.all_eq_true.mp hf.2 t ht
        cases t with
        | a i => rfl
        | d v => exact this
      · cases hse
    · cases hse
  have fin : ∀ {us ws : List Value} {vs zs : List V} {s2 : Shared} {H2 : Hp}, Inv X pins sg H2 s2 → Vals vs us → Vals zs ws → vs.length = as.length → zs.length = bs.length →
      (∃ rho st xs, StRep R rho st H2 ∧ RepVs R rho H2 xs (vs ++ zs) ∧ Good R (RepV R) rho H2 (match pick xs sel with
        | some ys => if ys.length = ks.length then .ok (mkX c ks ys) st else .bad
        | none => .bad) (fun cls d H' => W cls d sg H') Q) → wpAny (model X.prog X.w) X.A (call (.ref (R.cA c)) us ((kwNames kws).zip ws)) (EP X pins sg Q) X.xe s2 := by
    intro us ws vs zs s2 H2 I2 r1 r2 l1 l2 ⟨rho, st, xs, S, rx, g⟩
    have lu : us.length = as.length := by rw [← r1.length, l1]
    split at g
    · rename_i ys ep
      split at g
      · rename_i hy
        exact run_makeX xc hr I2 (by rw [lu]; exact ok) (by rw [lu]; exact hse) r1 r2 (by rw [← r2.length, l2, kwNames_len hkw, hbl]) (by omega) S (pick_ok rx sflat ep) hy g
      · exact g.elim
    · exact g.elim
  cases es with
  | nil =>
    obtain rfl : as = [] := List.length_eq_zero_iff.mp hel.symm
    have h3 := te_argsNil _ h2
    obtain ⟨_, q⟩ : ([] : List V).length = 0 ∧ _ := h3
    refine PySem.W.callWith_KW0 (h₀ := X.base) I.ok.mod.kin xc.keep k1 ?_ (by rw [k2]; rfl)
    refine thn (hb.run pos pins s sg H _ I q) fun ws s2 ⟨zs, H2, I2, r2, l2, q2⟩ => ⟨I2.kIn, ?_⟩
    rw [k3]
    exact fin (us := []) (vs := []) I2 .nil r2 rfl l2 q2
  | cons e r =>
    refine PySem.W.callWith_KW (h₀ := X.base) I.ok.mod.kin xc.keep k1 (thn (ha.run pos pins s sg H _ I h2) fun us s1 ⟨vs, H1, I1, r1, l1, q⟩ => ?_) (by rw [hpl, k2]; rfl) (hst e r rfl)
    refine thn (hb.run pos pins s1 sg H1 _ I1 q) fun ws s2 ⟨zs, H2, I2, r2, l2, q2⟩ => ⟨I2.kIn, ?_⟩
    rw [k3]
    exact fin I2 r1 r2 l1 l2 q2
/-- C(), C without an __init__ of its own -/
structure Xc0 (R : RC) (K : PySem.W.Frag) (c : Nat) : Prop where
  ex : ∃ (B newId initId : String) (bmB : List Value), ExcBaseFacts B newId initId bmB ∧ PySem.W.excIn K (R.cA c) bmB newId = true
  keep : PySem.W.keepIn K (.ref (R.cA c)) = true
theorem pe_xnew0 {c : Nat} {x : Str} {p pos : Pos} (xc : Xc0 R X.K c) (hg : Gl X x) (hm : X.mg x = some (.ref (R.cA c))) (hdb : (x == ("__debug__" : Str)) = false) : PE X (.Call (.Name x p) [] [] pos) (tE R F W (dXNew0 c)) := by
  refine ⟨fun pins s sg H Q I ⟨rho, st, env, hE, S, g⟩ => ?_⟩
  refine wpAny_Call_Name_kw (ld_glob I hg hm ?_ hdb)
  obtain ⟨B, newId, initId, bmB, FB, q⟩ := xc.ex
  refine PySem.W.callWith_KW0 (kws := []) (h₀ := X.base) I.ok.mod.kin xc.keep rfl ?_ rfl
  refine wpAny_pure ⟨I.kIn, ?_⟩
  show wpAny _ _ (call (.ref (R.cA c)) []) _ _ _
  obtain ⟨bm, N, nm, qn, bs, hdct, sn, sub, ab, col, dd, k0, k1, k2, k3, k5, mN, hC, hN, hni, T⟩ := exc_obj I.kIn q
  obtain ⟨hp, gg, d, t, os⟩ := s
  refine wpAny_call_exc_subT FB T hC hN hni (fun h' e hm => ?_) (by show 0 ≤ sizeLine; omega)
  obtain ⟨tt, he, _, _⟩ := hm.there
  have hn : H e = none := I.hok.gone hm.new
  have I2 := I.laidN (t' := t) (h' := h') (a := e) (o := xo e _) hm.keeps hm.new hn (xo_ok he)
  refine ⟨.ref e, _, I2, rfl, g rho _ _ (Mono.fresh S hn) (S.fresh hn) ?_⟩
  simp only [RepV]
  exact ⟨e, _, rfl, ⟨upd_same, S.deadOf hn, rfl, ⟨_, rfl⟩⟩, .inr ⟨rfl, trivial, trivial⟩⟩
/-! ### {k: v, ..}, constants all -/
def keyC : Expr → Option Key
  | .Constant (.int i) _ _ => some (.inl i)
  | .Constant (.str x) _ _ => some (.inr x)
  | _ => none
def valC : Expr → Option PV
  | .Constant .none _ _ => some .non
  | .Constant (.bool b) _ _ => some (.bl b)
  | .Constant (.int i) _ _ => some (.int i)
  | .Constant (.str x) _ _ => some (.str x)
  | _ => none
def keysC : List (Option Expr) → Option (List Key)
  | [] => some []
  | some e :: r => match keyC e, keysC r with
    | some k, some ks => some (k :: ks)
    | _, _ => none
  | none :: _ => none
theorem key_pe {e : Expr} {k : Key} (h : keyC e = some k) : PE X e (fun _ H Q => Q (kV k) H) := by
  unfold keyC at h
  split at h
  · cases h; exact pe_int
  · cases h; exact pe_str
  · cases h
theorem val_pe {e : Expr} {v : PV} (h : valC e = some v) : PE X e (fun _ H Q => Q (flatOf v) H) ∧ flatB v = true := by
  unfold valC at h
  split at h
  · cases h; exact ⟨pe_non, rfl⟩
  · cases h; exact ⟨pe_bl, rfl⟩
  · cases h; exact ⟨pe_int, rfl⟩
  · cases h; exact ⟨pe_str, rfl⟩
  · cases h
theorem flat_rep {rho : Rho} {H : Hp} {v : PV} (h : flatB v = true) : RepV R rho H v (flatOf v) := by
  cases v with
  | non => simp only [RepV, flatOf]
  | bl b => simp only [RepV, flatOf]
  | int i => simp only [RepV, flatOf]
  | str x => simp only [RepV, flatOf]
  | _ => exact absurd h (by simp [flatB])
def trC (ks : List Key) (xs : List PV) : List (TE × TE) := (ks.zip xs).map fun p => (fun _ H Q => Q (kV p.1) H, fun _ H Q => Q (flatOf p.2) H)
theorem pps_C {pos : Pos} : ∀ {keys : List (Option Expr)} {values : List Expr} {ks : List Key} {xs : List PV}, keysC keys = some ks → mapO valC values = some xs → keys.length = values.length → PPs X pos keys values (trC ks xs) ∧ keys.all (·.isSome) = true ∧ ks.length = xs.length ∧ ks.length = keys.length ∧ xs.all flatB = true
  | [], [], ks, xs, h1, h2, _ => by
    cases h1; cases h2
    exact ⟨pps_nil, rfl, rfl, rfl, rfl⟩
  | some k :: keys, v :: values, ks, xs, h1, h2, hl => by
    simp only [keysC] at h1
    simp only [mapO] at h2
    split at h1
    · rename_i k' ks' e1 e2
      cases h1
      split at h2
      · rename_i x' xs' e3 e4
        cases h2
        obtain ⟨q1, q2, q3, q4, q5⟩ := pps_C (pos := pos) e2 e4 (by simpa using hl)
        obtain ⟨r1, r2⟩ := val_pe (X := X) e3
        exact ⟨pps_cons (key_pe e1) r1 q1, by simp [q2], by simp [q3], by simp [q4], by simp [r2, q5]⟩
      · cases h2
    · cases h1
  | none :: _, _ :: _, _, _, h1, _, _ => by simp [keysC] at h1
  | [], _ :: _, _, _, _, _, hl => by cases hl
  | _ :: _, [], _, _, _, _, hl => by cases hl
theorem pairs_C {sg : L2.St} : ∀ {ks : List Key} {xs : List PV} {H : Hp} {Q : List (V × V) → Hp → Prop}, Q ((ks.zip (xs.map flatOf)).map fun kv => (kV kv.1, kv.2)) H → tPairs (trC ks xs) sg H Q
  | [], xs, H, Q, h => by exact h
  | k :: ks, [], H, Q, h => by exact h
  | k :: ks, x :: xs, H, Q, h => by
    show tPairs (trC ks xs) sg H fun ps H3 => Q ((kV k, flatOf x) :: ps) H3
    exact pairs_C h
theorem key_vals {rho : Rho} {H : Hp} : ∀ ks : List Key, RepVs R rho H (ks.map keyP) (ks.map kV)
  | [] => by simp [RepVs]
  | .inl i :: ks => RepVs.cons (by simp only [keyP, RepV]; rfl) (key_vals ks)
  | .inr i :: ks => RepVs.cons (by simp only [keyP, RepV]; rfl) (key_vals ks)
theorem flat_vals {rho : Rho} {H : Hp} : ∀ xs : List PV, xs.all flatB = true → RepVs R rho H xs (xs.map flatOf)
  | [], _ => by simp [RepVs]
  | x :: xs, h => by
    simp only [List.all_cons, Bool.and_eq_true] at h
    exact RepVs.cons (flat_rep h.1) (flat_vals xs h.2)
theorem dv_rep {rho : Rho} {st : Sto} {H : Hp} {p : Addr} {ks : List Key} {xs : List PV} (S : StRep R rho st H) (hp : H p = none) (hl : ks.length = xs.length) (hf : xs.all flatB = true) : RepV R rho (upd H p (.dK (ks.zip (xs.map flatOf)))) (.dv (ks.map keyP) xs) (.ref p) := by
  simp only [RepV]
  refine ⟨p, ks.zip (xs.map flatOf), rfl, upd_same, S.deadOf hp, ?_, ?_⟩
  · rw [show ((ks.zip (xs.map flatOf)).map fun q => kV q.1) = (((ks.zip (xs.map flatOf)).map (·.1)).map kV) by rw [List.map_map]; rfl, List.map_fst_zip (by rw [List.length_map]; omega)]
    exact key_vals ks
  · rw [show ((ks.zip (xs.map flatOf)).map fun q => q.2) = xs.map flatOf from List.map_snd_zip (by rw [List.length_map]; omega)]
    exact flat_vals xs hf
/-- the display's own part: the dict as it stands -/
theorem disp_end {keys : List (Option Expr)} {values : List Expr} {pos : Pos} {ks : List Key} {xs : List PV} (h1 : keysC keys = some ks) (h2 : mapO valC values = some xs) (hl : keys.length = values.length) (h0 : keys ≠ []) (h15 : keys.length ≤ 15) (nd : ks.Nodup) :
    PE X (.Dict keys values pos) (fun _ H Q => ∀ p, H p = none → Q (.ref p) (upd H p (.dK (ks.zip (xs.map flatOf))))) ∧ ks.length = xs.length ∧ xs.all flatB = true := by
  obtain ⟨q1, q2, q3, q4, q5⟩ := pps_C (X := X) (pos := pos) h1 h2 hl
  refine ⟨PE.weak (pe_disp q1 q2 hl h0 h15) fun sg H Q g p hp => ?_, q3, q5⟩
  refine pairs_C ⟨upd_same, ks.zip (xs.map flatOf), rfl, by rw [List.length_zip]; omega, ?_⟩
  have em : ∀ (l acc : List (Key × V)), (acc ++ l).map (·.1) |>.Nodup → mergeK acc l = acc ++ l := by
    intro l
    induction l with
    | nil => intro acc _; exact (List.append_nil _).symm
    | cons p l ih =>
      intro acc hn
      have e : putK acc p.1 p.2 = acc ++ [p] := by
        unfold putK
        rw [if_neg]
        intro z
        obtain ⟨q, z1, z2⟩ := List.any_eq_true.mp z
        have z2 : q.1 = p.1 := by simpa using z2
        rw [List.map_append, List.map_cons, List.nodup_append] at hn
        exact hn.2.2 q.1 (List.mem_map_of_mem z1) p.1 (List.mem_cons_self ..) z2
      show mergeK (putK acc p.1 p.2) l = acc ++ p :: l
      rw [e, ih (acc ++ [p]) (by simpa using hn), List.append_assoc]
      rfl
  have e1 : (ks.zip (xs.map flatOf)).map (·.1) = ks := List.map_fst_zip (by rw [List.length_map]; omega)
  have e2 := em (ks.zip (xs.map flatOf)) [] (by rw [List.nil_append, e1]; exact nd)
  rw [e2, List.nil_append]
  have eu : upd (upd H p (.dK [])) p (.dK (ks.zip (xs.map flatOf))) = upd H p (.dK (ks.zip (xs.map flatOf))) := by
    funext b
    by_cases hb : b = p
    · rw [hb, upd_same, upd_same]
    · rw [upd_ne hb, upd_ne hb, upd_ne hb]
  rw [eu]
  exact g p hp
theorem pe_dictV {keys : List (Option Expr)} {values : List Expr} {pos : Pos} {ks : List Key} {xs : List PV} (h1 : keysC keys = some ks) (h2 : mapO valC values = some xs) (hl : keys.length = values.length) (h0 : keys ≠ []) (h15 : keys.length ≤ 15) (nd : ks.Nodup) : PE X (.Dict keys values pos) (tE R F W (dDictV ks xs)) := by
  obtain ⟨q1, q2, q3⟩ := disp_end (X := X) (pos := pos) h1 h2 hl h0 h15 nd
  exact PE.weak q1 fun sg H Q ⟨rho, st, env, hE, S, g⟩ p hp => g rho _ _ (Mono.fresh S hp) (S.fresh hp) (dv_rep S hp q2 q3)
theorem pe_dictV0 {pos : Pos} : PE X (.Dict [] [] pos) (tE R F W (dDictV [] [])) :=
  PE.weak pe_dnewK fun sg H Q ⟨rho, st, env, hE, S, g⟩ p hp => g rho _ _ (Mono.fresh S hp) (S.fresh hp) (dv_rep (ks := []) (xs := []) S hp rfl rfl)
theorem pe_dictC {keys : List (Option Expr)} {values : List Expr} {pos : Pos} {ks : List Key} {xs : List PV} (h1 : keysC keys = some ks) (h2 : mapO valC values = some xs) (hl : keys.length = values.length) (h0 : keys ≠ []) (h15 : keys.length ≤ 15) (nd : ks.Nodup) : PE X (.Dict keys values pos) (tE R F W (dDictC ks xs)) := by
  obtain ⟨q1, q3, q5⟩ := disp_end (X := X) (pos := pos) h1 h2 hl h0 h15 nd
  refine PE.weak q1 fun sg H Q ⟨rho, st, env, hE, S, g⟩ p hp => ?_
  refine g (rho.push p) _ (.ref p) (Mono.push S hp) (S.push hp ⟨p, xs.map flatOf, get_push, upd_same, q3, flat_vals xs q5⟩) ?_
  simp only [RepV]
  refine ⟨p, rfl, by rw [← S.len]; simp [Rho.push], fun b hb => ?_⟩
  have hb : (rho.cs ++ [some p])[st.length]? = some (some b) := hb
  rw [← S.len, get_push] at hb
  cases hb
  rfl
end
end OL
set_option maxRecDepth 100000
set_option maxHeartbeats 0
/-! ## try: .. except (x, y, z) as n: .. -/
namespace OL
open PySem PySem.Spec
open PyProof.Rows L2

/-- new objects do not touch what flies -/
theorem fly_more {B h1 h2 : Heap} {l : List Env} {e : Addr} {Z : Obj → Prop} (k : ∀ b o, h1.get? b = some o → h2.get? b = some o) (f : HandSPX.FlyingZ B l e Z h1) : HandSPX.FlyingZ B l e Z h2 := by
  obtain ⟨f1, f2, f3, oe, vs, t, ot, ts, g1, g2, g3, g4, g5, g6, g7, g8, g9⟩ := f
  exact ⟨fun b o q => k b o (f1 b o q), f2, f3.of_keeps fun b o q _ => ⟨o, k b o q, rfl⟩, oe, vs, t, ot, ts, k _ _ g1, g2, g3, g4, g5, g6, k _ _ g7, g8, g9⟩
theorem fly_sees {B h : Heap} {l : List Env} {e : Addr} {Z : Obj → Prop} (f : HandSPX.FlyingZ B l e Z h) : ∃ oe vs, h.get? e = some oe ∧ Z oe ∧ oe.data = .fields vs ∧ ∃ t, vs[1]? = some (.ref t) := by
  obtain ⟨_, _, _, oe, vs, t, _, _, g1, g2, g3, g4, _⟩ := f
  exact ⟨oe, vs, g1, g2, g3, t, g4⟩
/-- what the clause wants of an exception: it is of one of the three, its name's slot is i -/
def wAs3 (K : PySem.W.Frag) (cs : List Value) (i : Nat) (ts : Addr → Value → Option Addr → TS) (D : Ends) : WX := fun cls d sg H =>
  PySem.W.exmAny K cls cs = some true ∧ ∀ a sg', H a = none → sg'[i]? = some (some (.ref a)) → ts a cls d { nx := fun _ _ => False, rt := D.rt } sg' H
section
variable {X : Cx} {y1 y2 y3 nm : Str} {v1 v2 v3 : Value} {i kk : Nat} {bd su : List Stmt} {st0 : Stmt} {q1 q2 q3 qt hpos tpos : Pos} {tb : WX → TS} {ts : Addr → Value → Option Addr → TS}
theorem ps_try3 (hst : X.stack = X.env :: X.outer) (hfr : X.env.frame = some X.env.locals) (hnd : X.N.Nodup) (hix : X.N[i]? = some nm) (hkn : X.env.kindOf nm = some .local)
    (n1 : Gl X y1 ∧ X.mg y1 = some v1 ∧ (y1 == ("__debug__" : Str)) = false) (n2 : Gl X y2 ∧ X.mg y2 = some v2 ∧ (y2 == ("__debug__" : Str)) = false) (n3 : Gl X y3 ∧ X.mg y3 = some v3 ∧ (y3 == ("__debug__" : Str)) = false)
    (hb : ∀ (W : WX) (pn : List (Addr × Obj)) (xe : Value → Shared → Prop), Takes (X.tr pn xe) W → PassesOwn (model X.prog X.w) X.A X.env xe → PSs (X.tr pn xe) bd (tb W))
    (hsu : ∀ (a : Addr) (oe : Obj) (cls : Value) (d : Option Addr) (pn : List (Addr × Obj)), Zc cls d oe → (∃ vs t, oe.data = .fields vs ∧ vs[1]? = some (.ref t)) → X.base.get? a = none → PSs (X.suite a ((a, oe) :: pn)) (st0 :: su) (ts a cls d)) :
    PS X (.Try bd [.ExceptHandler (some (.Tuple [.Name y1 q1, .Name y2 q2, .Name y3 q3] kk qt)) (some nm) (st0 :: su) hpos] [] [] tpos) (fun D sg H => tb (wAs3 X.K [v1, v2, v3] i ts D) D sg H) := by
  refine ⟨fun pins s sg H D I want => ?_⟩
  have ok := I.ok
  have frm : X.A.frames = some (X.env :: X.outer) := by rw [ok.frames, hst]
  refine wpAny_Try_except (wpAny_mono ((hb (wAs3 X.K [v1, v2, v3] i ts D) (X.pn ++ pins) _ (fun u s' air => ?_) PassesOwn.looking).run [] s sg H D (I.toTry _) want) (fun f s1 ends => ?_) (fun _ _ z => z))
  · obtain ⟨a, B, sI, pins', sg', H', cls, d, rfl, J0, nb, up, sky, na, os, ag, yes, hyes⟩ := air
    have J : Inv X pins sg' H' sI := J0.ofTry ok
    rw [show (X.tr (X.pn ++ pins) _).stack = X.env :: X.outer from hst] at sky
    show wpAny (model X.prog X.w) X.A (noteFrame (.ref a) X.env) _ _ _
    refine Sky.land Zc.steady frm hfr sky fun h3 fl up3 => ?_
    have J3 : Inv X pins sg' H' { s' with heap := h3 } := J.landed nb fl.1 (up.trans up3) os ag
    obtain ⟨o3, w3, e3, z3, d3, _⟩ := fly_sees fl
    have off : a ∉ frs (X.env :: X.outer) := fun hm => by
      obtain ⟨_, o', e', no⟩ := fl.2.2.1.mem hm
      rw [e3] at e'
      cases e'
      exact no _ d3
    have offL : a ≠ X.env.locals := fun z => off (List.mem_filterMap.mpr ⟨X.env, List.mem_cons_self, by rw [hfr, z]⟩)
    have offF : a ∉ X.fs := fun hm => by
      obtain ⟨e, he, q⟩ := List.mem_filterMap.mp hm
      exact off (List.mem_filterMap.mpr ⟨e, List.mem_cons_of_mem _ he, q⟩)
    have offB : X.base.get? a = none := by
      cases q : X.base.get? a with
      | none => rfl
      | some o =>
        have z := nb a o (J.bk a o q) (by rw [hst]; exact off)
        rw [fl.2.1] at z
        cases z
    have S3 := J3.suite e3 d3 na offL offF
    refine wpAny_handleBy_cons (codeAny_handlers_test ?_) (by intro q; cases q)
    refine wpAny_Tuple (wpAny_items_cons (ld_glob (X := X.suite a ((a, o3) :: (X.pn ++ pins))) S3 n1.1 n1.2.1 ?_ n1.2.2))
    refine wpAny_items_cons (ld_glob (X := X.suite a ((a, o3) :: (X.pn ++ pins))) S3 n2.1 n2.2.1 ?_ n2.2.2)
    refine wpAny_items_cons (ld_glob (X := X.suite a ((a, o3) :: (X.pn ++ pins))) S3 n3.1 n3.2.1 ?_ n3.2.2)
    refine wpAny_items_nil ⟨by size_fits, ?_⟩
    have more : ∀ b o, h3.get? b = some o → (h3.push { cls := .type "tuple", data := .seq [v1, v2, v3].toArray }).get? b = some o := fun b o q => Heap.get?_push_of_some _ q
    have LT : PySem.W.Looks (model X.prog X.w) h3 (typeOf (.ref a)) cls := fun A Q E s k q => wpAny_typeOf_ref (k _ _ e3) (by rw [z3.1]; exact q)
    refine (PySem.W.exm_tup3 (J3.kIn.keeps more) (LT.keeps more) (Heap.get?_push_size h3 rfl) yes).here ?_
    refine codeAny_handlers_suite_as (HandSPX.lands_againZ (fly_more more fl) fun h4 fl4 up4 => ?_)
    have J4 : Inv X pins sg' H' { s' with heap := h4 } := J.landed nb fl4.1 (((up.trans up3).trans (Heap.UpToSlots.of_keeps more)).trans up4) os ag
    obtain ⟨o4, w4, e4, z4, d4, t4, u4⟩ := fly_sees fl4
    refine store_ok (X := X.suite a ((a, o4) :: (X.pn ++ pins))) (v := .ref a) (J4.suite e4 d4 na offL offF) hnd hix (.inl hkn) rfl (fun s5 S5 => ?_) (.inr hkn)
    refine wpAny_mono ((hsu a o4 cls d (X.pn ++ pins) z4 ⟨_, _, d4, u4⟩ offB).run [] s5 _ H' _ S5 (hyes a _ na (List.getElem?_set_self (by rw [J.len]; exact (List.getElem?_eq_some_iff.mp hix).1)))) (fun f s6 fin => ?_) (fun _ _ z => False.elim z)
    cases f with
    | ret u =>
      obtain ⟨v6, sg6, H6, S6, r6, g6⟩ := fin
      exact gone_ok (S6.unsuite ok) hnd hix hkn fun s7 J7 => ⟨_, _, _, J7, r6, g6⟩
    | next => obtain ⟨_, _, _, z⟩ := fin; exact z.elim
    | brk => obtain ⟨_, _, _, z⟩ := fin; exact z.elim
    | cont => obtain ⟨_, _, _, z⟩ := fin; exact z.elim
  · cases f with
    | next =>
      obtain ⟨sg', H', J', q⟩ := ends
      exact wpAny_execs_nil ⟨sg', H', J'.ofTry ok, q⟩
    | ret u =>
      obtain ⟨v, sg', H', J', r, q⟩ := ends
      exact ⟨v, sg', H', J'.ofTry ok, r, q⟩
    | brk => obtain ⟨sg', H', J', q⟩ := ends; exact ⟨sg', H', J'.ofTry ok, q⟩
    | cont => obtain ⟨sg', H', J', q⟩ := ends; exact ⟨sg', H', J'.ofTry ok, q⟩
end
end OL
set_option maxRecDepth 100000
set_option maxHeartbeats 0
/-! ## a lambda without parameters is made, and called -/
namespace OL
open PySem PySem.Spec
open PyProof.Rows L2
section
variable {X : Cx} {pins : List (Addr × Obj)} {sg : L2.St} {H : Hp} {s : Shared}
/-- as LamX.lam_make2, but all places save the one table are told to stay -/
theorem lam_mk {T : List (Addr × Str)} {cO tA : Addr} {pa : Arguments} {bd : Expr} {sc : Scope} {pos : Pos} {E Q : Value → Shared → Prop} (I : Inv X pins sg H s) (TB : LamX.TabB X.base X.mg cO tA) (hcd : X.env.code = .ref cO)
    (hin : (tA, X.env.qual ++ "<lambda>") ∈ T) (one : ∀ p ∈ T, p.1 = tA → p.2 = X.env.qual ++ "<lambda>") (tabs : LamX.Tabs T H) (nodef : defaultsOf pa X.env = ([], [])) (caps : ∀ y ∈ sc.names, y.2 = .free → ∃ c, X.env.cells.lookup y.1 = some c)
    (go : ∀ (f c2 : Addr) (m1 m2 : Value) (H1 : Hp) (s2 : Shared), Inv X pins sg H1 s2 → (∀ b o, b ≠ tA → H b = some o → H1 b = some o) → LamX.Tabs T H1 →
      s2.heap.get? f = some (PySem.W.kla_obj "<lambda>" (X.env.qual ++ "<lambda>") pa bd sc (cloFrom X.env.cells sc.names []) m1 c2 m2) → H1 f = none → f ∉ frs X.stack → H1 c2 = some (LamX.CodeO c2 (X.env.qual ++ "<lambda>")) → Q (.ref f) s2) :
    wpAny (model X.prog X.w) X.A (eval (.Lambda pa bd sc pos) X.env) Q E s := by
  obtain ⟨ps, atT, trip, told⟩ := tabs _ hin
  have tO : s.heap.get? tA = some { cls := .none, data := .fields ps } := I.hok tA _ atT
  have bT : s.heap.BuiltinsAt X.mg tA := TB.bm.keeps I.bk
  have away : ∀ f, s.heap.objs.size ≤ f → f ∉ frs X.stack := fun f big z => by
    rcases List.mem_cons.mp (I.stkSub _ z) with e | e
    · have lt := I.lt
      rw [← e] at lt
      exact absurd lt (Nat.not_lt.mpr big)
    · exact I.nofs big e
  refine PySem.W.kla_eval nodef ?_
  cases found : codeAmong pos ps.toList with
  | some cv =>
    obtain ⟨c2, rfl, hco⟩ := told pos cv found
    refine PySem.W.kla_makeFunctionHit (mg := X.mg) (c := cO) (P := tA) (ps := ps) (closure_ok caps) I.ok.glob (I.mod.glob.keeps I.bk) hcd (TB.code.keeps I.bk) tO trip found bT fun m2 h2 tk more big => ?_
    refine go h2.objs.size c2 ((X.mg "__name__").getD .none) m2 H _ (I.kept fun b o e => Heap.get?_push_of_some _ (more b o e)) (fun _ _ _ e => e) tabs (Heap.get?_push_size _ rfl) (I.hok.fresh big) (away _ big) hco
  | none =>
    refine PySem.W.kla_makeFunction (mg := X.mg) (c := cO) (P := tA) (ps := ps) (closure_ok caps) I.ok.glob (I.mod.glob.keeps I.bk) hcd (TB.code.keeps I.bk) tO trip found TB.gP bT fun c2 m2 h2 tk more ge lt recd tab2 => ?_
    obtain ⟨c3, oc, vs, t, e2, hoc, hdat, hnm⟩ := recd
    cases e2
    have big : s.heap.objs.size ≤ h2.objs.size := Nat.le_trans ge (Nat.le_of_lt lt)
    have fresh : H c2 = none := I.hok.fresh ge
    have neT : tA ≠ c2 := ne_of_none atT fresh
    let ps2 : Array Value := ps ++ #[rawInt pos.line, rawInt pos.col, .ref c2]
    let H2 : Hp := upd (upd H tA (.tbl ps2)) c2 (LamX.CodeO c2 (X.env.qual ++ "<lambda>"))
    have stay : ∀ b o, b ≠ tA → H b = some o → H2 b = some o := fun b o hb e => by
      show upd (upd H tA (.tbl ps2)) c2 _ b = some o
      rw [upd_ne (ne_of_none e fresh), upd_ne hb]
      exact e
    have l2 : ps2.toList = ps.toList ++ [rawInt pos.line, rawInt pos.col, .ref c2] := by simp [ps2]
    have notT : ∀ (b : Addr) (q : Str), H b = some (LamX.CodeO b q) → b ≠ tA := fun b q e z => by
      rw [z, atT] at e
      exact LamX.codeO_ne ps (Option.some.inj e).symm
    refine go h2.objs.size c2 ((X.mg "__name__").getD .none) m2 H2 _ (LamX.inv_table (t' := tk) (more := #[rawInt pos.line, rawInt pos.col, .ref c2]) I atT (fun b o hb e => Heap.get?_push_of_some _ (more b o hb e)) (Heap.get?_push_of_some _ tab2) ge ⟨oc, vs, t, Heap.get?_push_of_some _ hoc, hdat, hnm⟩)
      stay (fun p hp => ?_) (Heap.get?_push_size _ rfl) ?_ (away _ big) upd_same
    · by_cases hb : p.1 = tA
      · rw [one p hp hb, hb]
        refine ⟨ps2, (upd_ne neT).trans upd_same, by rw [l2]; exact PySem.TriplesOk_snoc _ _ _ _ trip, fun p' cv hcv => ?_⟩
        rw [l2] at hcv
        rcases LamX.among_app _ trip hcv with z | z
        · obtain ⟨c0, e1, e2⟩ := told p' cv z
          exact ⟨c0, e1, stay _ _ (notT _ _ e2) e2⟩
        · exact ⟨c2, z, upd_same⟩
      · obtain ⟨ps', a1, a2, a3⟩ := tabs p hp
        refine ⟨ps', stay _ _ hb a1, a2, fun p' cv hcv => ?_⟩
        obtain ⟨c0, e1, e2⟩ := a3 p' cv hcv
        exact ⟨c0, e1, stay _ _ (notT _ _ e2) e2⟩
    · show upd (upd H tA (.tbl ps2)) c2 _ h2.objs.size = none
      rw [upd_ne (Nat.ne_of_gt lt), upd_ne (Nat.ne_of_gt (Nat.lt_of_lt_of_le (Heap.lt_size tO) big))]
      exact I.hok.fresh big
end
section
variable {X : Cx} {pins : List (Addr × Obj)} {sg : L2.St} {H : Hp} {s : Shared}
/-- the context of a def that is entered at s from X -/
abbrev cxIn (X : Cx) (N : List Str) (q : Str) (sc : Scope) (f : Addr) (cd : Value) (s : Shared) (H : Hp) (E : XK) : Cx := cxOf (L2.CX X.prog X.w) X.prog X.w X.K X.mg X.base N q sc f cd X.A X.stack s H E
/-- as LamX.pe_act, with all that is around told -/
theorem act_g {Ez E : XK} {N : List Str} {q : Str} {zs : Scope} {g f c2 : Addr} {cdv m1 m2 : Value} {pa : Arguments} {bd : Expr} {sc : Scope} {lv j : Nat} {x : Str} {pn : List (Addr × Obj)} {xe : Value → Shared → Prop} {W : WX} {t : TE} {p1 p2 : Pos}
    (I : Inv X pins sg H s) (L : LamX.LamS X.env.scope sc) (atF : s.heap.get? f = some (PySem.W.kla_obj "<lambda>" (X.env.qual ++ "<lambda>") pa bd sc (cloFrom X.env.cells sc.names []) m1 c2 m2)) (offH : H f = none) (offS : f ∉ frs X.stack)
    (none_ : bindArgs (PySem.W.kla_fn "<lambda>" (X.env.qual ++ "<lambda>") pa bd sc (cloFrom X.env.cells sc.names []) m1 (.ref c2) m2) ⟨[], []⟩ = pure [])
    (tk : Takes ((cxIn X N q zs g cdv s H Ez).tr pn xe) W) (hW : ∀ cls d sg' H', E cls d H' → W cls d sg' H') (hr : RoomG false (lv + 1) (X.A.deeper (envOfC q zs s.heap.objs.size g cdv)))
    (body : ∀ s1 H1, PE (LamX.lamCx X (X.A.deeper (envOfC q zs s.heap.objs.size g cdv)) (envOfC q zs s.heap.objs.size g cdv :: X.stack) s1 H1 E sc f c2) bd t)
    (hN : N[j]? = some x) (hv : Vis zs x) (hd : (x == ("__debug__" : Str)) = false) (hcl : (x == ("__classdict__" : Str)) = false) :
    PE ((cxIn X N q zs g cdv s H Ez).tr pn xe) (.Call (.Name x p1) [] [] p2) (fun sz Hz Q => sz[j]? = some (some (.ref f)) ∧ Hz c2 = some (LamX.CodeO c2 (X.env.qual ++ "<lambda>")) ∧ t sg Hz Q) := by
  refine ⟨fun pz sz0 sz Hz Q Iz ⟨h1, h2, h3⟩ => ?_⟩
  refine wpAny_Call_Name_kw (thn ((pe_var (pos := p1) (i := j) hN hv hd hcl).run pz sz0 sz Hz (fun v H1 => v = .ref f ∧ H1 = Hz) Iz ⟨.ref f, h1, rfl, rfl⟩) fun u s1 ⟨v, H1, I1, r1, ev, eH⟩ => ?_)
  subst ev
  rw [eH] at I1
  obtain rfl : u = Value.ref f := r1
  have atF1 := I1.base.keep f _ atF offH offS (fun z => nomatch (show f ∈ ([] : List Addr) from z))
  refine PySem.W.callWith_F0 ⟨_, _, _, _, atF1⟩ ?_
  obtain ⟨⟨oc, vs, tt, hoc, hdc, hvc⟩, _, _⟩ := I1.hok c2 _ h2
  have run : codeAny (model X.prog X.w) (X.A.deeper (envOfC q zs s.heap.objs.size g cdv)) (.call (.ref f) ⟨[], []⟩) (CR (L2.CX X.prog X.w) (envOfC q zs s.heap.objs.size g cdv :: X.stack) X.prog X.w Hz s1 Q E) s1 := by
    refine PySem.W.kla_callFunE hr.depth atF1 rfl L.co L.gen rfl ⟨c2, oc, vs, tt, rfl, hoc, hdc, hvc⟩ ?_
    rw [none_]
    refine wpAny_pure (wpAny_newFunctionEnv (fun y hy => (L.own y hy).2) (fun y hy => absurd hy (by simp)) (fun h2 names same => ⟨I1.nolimit.fresh _ same, ?_⟩) L.kind)
    show codeAny _ _ (.expr bd (LamX.lamEnv X sc s1.heap.objs.size f c2)) _ _
    have J : Inv (LamX.lamCx X (X.A.deeper (envOfC q zs s.heap.objs.size g cdv)) (envOfC q zs s.heap.objs.size g cdv :: X.stack) s1 Hz E sc f c2) [] sg Hz { s1 with heap := h2, toks := s1.toks + ([] : List (Str × Value)).length } :=
      LamX.lam_start2 I L I1.env0 (hr.hd rfl) I1.base names fun b o e => same.extBut b o (Nat.ne_of_lt (Heap.lt_size e)) (Heap.get?_push_of_some _ e)
    refine PySem.W.kla_codeExpr (wpAny_mono ((body s1 Hz).run [] _ _ Hz Q J h3) (fun v s3 hq => ?_) fun _ _ hq => hq)
    obtain ⟨w', H', J', rv, qq⟩ := hq
    exact ⟨w', H', J'.os, J'.bare, J'.base, J'.hok, rv, qq⟩
  refine wpAny_call (codeAny_mono run fun r s3 hq => ?_)
  cases r with
  | error e => exact passes_call tk hW pz sz Hz s1 e s3 I1 hq
  | ok fl =>
    cases fl with
    | ret u => exact I1.after hq
    | next => exact False.elim hq
    | brk => exact False.elim hq
    | cont => exact False.elim hq
end
end OL
set_option maxRecDepth 100000
set_option maxHeartbeats 0
/-! ## f(lambda: ..), f catching what is raised -/
namespace OL
open PySem PySem.Spec
open PyProof.Rows L2
/-! no exception within a value -/
mutual
def cleanV : PV → Bool
  | .xv _ _ _ => false
  | .tup xs => cleanVs xs
  | .kt xs => cleanVs xs
  | .lv xs => cleanVs xs
  | .fl xs => cleanVs xs
  | .iv _ _ xs => cleanVs xs
  | .dv ks xs => cleanVs ks && cleanVs xs
  | _ => true
def cleanVs : List PV → Bool
  | [] => true
  | x :: xs => cleanV x && cleanVs xs
end
mutual
theorem RepV.del {R : RC} {rho : Rho} {H : Hp} {a : Addr} {oe : Obj} (ha : H a = some (xo a oe)) : ∀ (x : PV) (v : V), cleanV x = true → RepV R rho H x v → RepV R rho (delH H a) x v
  | .non, v, _, h => by simp only [RepV] at h ⊢; exact h
  | .bl b, v, _, h => by simp only [RepV] at h ⊢; exact h
  | .int i, v, _, h => by simp only [RepV] at h ⊢; exact h
  | .str s, v, _, h => by simp only [RepV] at h ⊢; exact h
  | .ty n, v, _, h => by simp only [RepV] at h ⊢; exact h
  | .cls c, v, _, h => by simp only [RepV] at h ⊢; exact h
  | .fn f, v, _, h => by simp only [RepV] at h ⊢; exact h
  | .tup xs, v, p, h => by
    simp only [RepV] at h ⊢
    simp only [cleanV] at p
    obtain ⟨b, vs, e, t, r⟩ := h
    exact ⟨b, vs, e, ⟨by have t1 := t.1; rw [delH_ne (fun z => by rw [z, ha] at t1; exact absurd t1 (by unfold xo; simp))]; exact t1, t.2⟩, RepVs.del ha xs vs p r⟩
  | .kt xs, v, p, h => by
    simp only [RepV] at h ⊢
    simp only [cleanV] at p
    obtain ⟨b, vs, e, t, r⟩ := h
    exact ⟨b, vs, e, t, RepVs.del ha xs vs p r⟩
  | .lv xs, v, p, h => by
    simp only [RepV] at h ⊢
    simp only [cleanV] at p
    obtain ⟨b, vs, e, t, q, r⟩ := h
    exact ⟨b, vs, e, by rw [delH_ne (fun z => by rw [z, ha] at t; exact absurd t (by unfold xo; simp))]; exact t, q, RepVs.del ha xs vs p r⟩
  | .fl xs, v, p, h => by
    simp only [RepV] at h ⊢
    simp only [cleanV] at p
    obtain ⟨b, vs, e, t, r⟩ := h
    refine ⟨b, vs, e, ?_, RepVs.del ha xs vs p r⟩
    rcases t with ⟨o, h1, h2⟩ | h1
    · exact .inl ⟨o, by rw [delH_ne (fun z => by rw [z, ha] at h1; exact absurd h1 (by unfold xo; simp))]; exact h1, h2⟩
    · exact .inr h1
  | .iv c ks xs, v, p, h => by
    simp only [RepV] at h ⊢
    simp only [cleanV] at p
    obtain ⟨b, dx, vs, e, t, q, l, r⟩ := h
    exact ⟨b, dx, vs, e, by rw [delH_ne (fun z => by rw [z, ha] at t; exact absurd t (by unfold xo; simp))]; exact t, q, l, RepVs.del ha xs vs p r⟩
  | .dv ks xs, v, p, h => by
    simp only [RepV] at h ⊢
    simp only [cleanV, Bool.and_eq_true] at p
    obtain ⟨b, kvs, e, t, q, rk, r⟩ := h
    exact ⟨b, kvs, e, by rw [delH_ne (fun z => by rw [z, ha] at t; exact absurd t (by unfold xo; simp))]; exact t, q, RepVs.del ha ks _ p.1 rk, RepVs.del ha xs _ p.2 r⟩
  | .xv c ks xs, v, p, h => by simp only [cleanV] at p; cases p
  | .obj n, v, p, h => by simp only [RepV] at h ⊢; exact h
theorem RepVs.del {R : RC} {rho : Rho} {H : Hp} {a : Addr} {oe : Obj} (ha : H a = some (xo a oe)) : ∀ (xs : List PV) (vs : List V), cleanVs xs = true → RepVs R rho H xs vs → RepVs R rho (delH H a) xs vs
  | [], vs, _, h => by simp only [RepVs] at h ⊢; exact h
  | x :: xs, vs, p, h => by
    simp only [RepVs] at h ⊢
    simp only [cleanVs, Bool.and_eq_true] at p
    obtain ⟨v, r, e, h1, h2⟩ := h
    exact ⟨v, r, e, RepV.del ha x v p.1 h1, RepVs.del ha xs r p.2 h2⟩
end
/-- what the handler makes of the exception: told apart from the store -/
def hotF (p : Bool) (r : Res PV) (st : Sto) : Res PV := match p, r with
  | true, .ok v _ => if pureV v && cleanV v then .ok v st else .bad
  | _, _ => .bad
/-- f(lambda: e): f gives r of the value, or Th[jh] of the exception -/
def dCaught (hits : Nat → Bool) (Th : List FnI) (jh n i : Nat) (e r : D PV) : D PV := fun F env st => match e F env st with
  | .ok v st1 => r F ((List.replicate n none).set i (some v)) st1
  | .exc c ks xs st1 => if hits c then hotF (pureVs xs) (callK Th 4 jh [.xv c ks xs] []) st1 else .bad
  | .bad => .bad

section
variable {R : RC} {fD : Nat → FuncData} {Th : List FnI} {X : Cx}
/-- h(e) in the suite, e the exception that is handled -/
def tHot (R : RC) (Th : List FnI) (jh i : Nat) (a : Addr) (cls : Value) (d : Option Addr) : TE := fun sg H Q => sg[i]? = some (some (.ref a)) ∧ ∃ rho st c ks xs v st2, StRep R rho st H ∧ ExcRep R rho H c ks xs cls d ∧ callK Th 4 jh [.xv c ks xs] [] = .ok v st2 ∧
  pureVs xs = true ∧ pureV v = true ∧ cleanV v = true ∧ ∀ v' H', Mono rho H rho H' → StRep R rho st H' → RepV R rho H' v v' → Q v' H'
theorem pe_hot {a : Addr} {oe : Obj} {cls : Value} {d : Option Addr} {pn : List (Addr × Obj)} {x nm : Str} {jh i : Nat} {p p' pos : Pos} (hz : Zc cls d oe) (hdat : ∃ vs t, oe.data = .fields vs ∧ vs[1]? = some (.ref t)) (hnb : X.base.get? a = none) (hRK : R.K = X.K)
    (fs : Fns .hot R fD Th X.prog X.w X.K X.mg X.base 4) (pb : ∀ (j : Nat) fi, Th[j]? = some fi → ∀ (s : Shared) (us : List Value), X.K.In s.heap → us.length = fi.ps.length → BindsTo s (fD j) ⟨us, []⟩ (fi.ps.zip us))
    (hr : RoomG true 24 (X.A.mark (some (.ref a)))) (hg : Gl X x) (hm : X.mg x = some (.ref (R.fA jh))) (hk : PySem.W.keepIn X.K (.ref (R.fA jh)) = true) (hdb : (x == ("__debug__" : Str)) = false)
    (hN : X.N[i]? = some nm) (hv : Vis X.env.scope nm) (hd1 : (nm == ("__debug__" : Str)) = false) (hd2 : (nm == ("__classdict__" : Str)) = false) :
    PE (X.suite a ((a, oe) :: pn)) (.Call (.Name x p) [.Name nm p'] [] pos) (tHot R Th jh i a cls d) := by
  refine ⟨fun pins s sg H Q I ⟨hs, rho, st, c, ks, xs, v, st2, S, ex, run, px, pv, nx, hQ⟩ => ?_⟩
  refine wpAny_Call_Name_kw (ld_glob I hg hm ?_ hdb)
  have ha : PA (X.suite a ((a, oe) :: pn)) [.Name nm p'] _ := pa_cons (pe_var (X := X.suite a ((a, oe) :: pn)) (pos := p') (i := i) hN hv hd1 hd2) pa_nil rfl
  refine PySem.W.callWith_K (h₀ := X.base) I.ok.mod.kin hk (thn (ha.run pos pins s sg H (fun vs H1 => vs = [.ref a] ∧ H1 = H) I ⟨.ref a, hs, rfl, rfl⟩) fun us s1 ⟨vs, H1, I1, r, e1, e2⟩ => ⟨I1.kIn, ?_⟩) rfl rfl
  subst e1
  rw [e2] at I1
  obtain ⟨at1, na, nL, nF, _⟩ := I1.pin (a, oe) (List.mem_append_left _ List.mem_cons_self)
  have at1 : s1.heap.get? a = some oe := at1
  have na : H a = none := na
  have nS : a ∉ frs X.stack := fun z => by
    rcases List.mem_cons.mp (I1.stkSub _ z) with e | e
    · exact nL e
    · exact nF e
  have da : Dead rho a := S.deadOf na
  have S2 : StRep R rho st (upd H a (xo a oe)) := S.fresh na
  have M2 : Mono rho H rho (upd H a (xo a oe)) := Mono.fresh S na
  obtain ⟨vs0, t0, dat, d10⟩ := hdat
  have rx : RepV R rho (upd H a (xo a oe)) (.xv c ks xs) (.ref a) := by
    simp only [RepV]
    obtain ⟨x1, x2⟩ := ex
    refine ⟨a, oe, rfl, ⟨upd_same, da, by rw [hz.1]; exact x1, _, dat⟩, ?_⟩
    rcases x2 with ⟨dd, vs, y1, y2, y3, y4, y5⟩ | ⟨y1, y2, y3⟩
    · exact .inl ⟨dd, vs, by rw [hz.2]; exact y1, M2.keep _ _ y2 y3, y3, y4, y5.mono M2⟩
    · exact .inr ⟨by rw [hz.2]; exact y1, y2, y3⟩
  have rx2 : RepV R rho.aside (upd H a (xo a oe)) (.xv c ks xs) (.ref a) := RepV.pure (fun b q => aside_dead.mpr q) _ _ (by simp only [pureV]; exact px) rx
  obtain ⟨fi, hj, hl⟩ := callK_fn (R := R) (rho := rho) (H := H) (Wx := fun _ _ _ => False) (Q := fun _ _ => True) (by rw [run]; exact fun _ _ _ _ _ _ => True.intro : Good R (RepV R) rho H (callK Th 4 jh [.xv c ks xs] []) (fun _ _ _ => False) (fun _ _ => True))
  have lu : us.length = 1 := by have := r.length; simp at this; omega
  have e0 : Env0 X.prog X.w X.K X.mg X.base (X.A.mark (some (.ref a))) X.stack s1 (upd H a (xo a oe)) := by
    have z := I1.env0
    refine ⟨z.frames, z.mod, fun b o q => ⟨(z.bs b o q).1, ?_⟩, z.bsz, z.funs, fun b hb => ?_, z.hok.laidN (fun _ _ q => q) na ⟨at1, ⟨oe, at1⟩, fun h1 h2 q k => k _ q⟩, z.bare⟩
    · rw [upd_ne (fun e => by rw [e, hnb] at q; cases q)]
      exact (z.bs b o q).2
    · rw [upd_ne (fun e => nS (by rw [← e]; exact hb))]
      exact z.frf b hb
  have rc := (fs jh fi hj).run (X.A.mark (some (.ref a))) X.stack s1 (upd H a (xo a oe)) ⟨us, []⟩ us [.ref a] (fun b H' => ∃ rho', Mono rho.aside (upd H a (xo a oe)) rho' H' ∧ StRep R rho' st2 H' ∧ RepV R rho' H' v b) (fun _ _ _ => False) hr e0 (pb jh fi hj s1 us I1.kIn (by rw [lu]; simpa using hl)) r
    ⟨by simpa using hl, rho.aside, [], [.xv c ks xs], aside_rep S2, RepVs.cons rx2 (by simp only [RepVs]), by rw [run]; exact fun rho' H' b m s r => ⟨rho', m, s, r⟩⟩
  refine wpAny_call (codeAny_mono rc fun r2 s3 hq => ?_)
  cases r2 with
  | error e => obtain ⟨_, _, _, _, _, _, _, _, _, _, _, _, z⟩ := hq; exact z.elim
  | ok fl =>
    cases fl with
    | next => exact False.elim hq
    | brk => exact False.elim hq
    | cont => exact False.elim hq
    | ret u =>
      refine I1.after ?_
      obtain ⟨v', H', os, bare, un, hok, rv, rho', M', S', r'⟩ := hq
      have atA : H' a = some (xo a oe) := M'.keep a _ upd_same (aside_dead.mpr da)
      have hA : s3.heap.get? a = some oe := (hok a _ atA).1
      have ne : ∀ {b : Addr} {o : HO}, H b = some o → b ≠ a := fun e => ne_of_none e na
      have neX : ∀ {b : Addr} {o : HO}, H' b = some o → o ≠ xo a oe → b ≠ a := fun {b o} e k z => by
        rw [z, atA] at e
        exact k (Option.some.inj e).symm
      have un3 : Un (frs X.stack) [] H (delH H' a) s1.heap s3.heap := by
        refine ⟨fun b o e n hb hx => ?_, fun b o e n hb hx => ?_, fun b o e n hx => ?_, un.there, fun b ys e => ?_, fun b o w e => ?_, fun b qs e => ?_⟩
        · by_cases hba : b = a
          · subst hba
            rw [at1] at e
            cases e
            exact hA
          · exact un.keep b o e (by rw [upd_ne hba]; exact n) hb hx
        · have hba : b ≠ a := fun z => nS (by rw [← z]; exact hb)
          exact un.slot b o e (by rw [upd_ne hba]; exact n) hb hx
        · by_cases hba : b = a
          · subst hba
            exact delH_same
          · rw [delH_ne hba]
            exact un.free b o e (by rw [upd_ne hba]; exact n) hx
        · rw [delH_ne (ne e)]
          exact un.tups b ys (by rw [upd_ne (ne e)]; exact e)
        · rw [delH_ne (ne e)]
          exact un.frzs b o w (by rw [upd_ne (ne e)]; exact e)
        · rw [delH_ne (ne e)]
          exact un.tbls b qs (by rw [upd_ne (ne e)]; exact e)
      have hok3 : HOk X.prog X.w (delH H' a) s3.heap := fun b u e => by
        have hb : b ≠ a := fun z => by rw [z, delH_same] at e; cases e
        rw [delH_ne hb] at e
        refine (hok b u e).stay (fun _ _ _ q => q) (fun c q => by rw [delH_ne (neX q (by unfold xo; simp))]; exact q) fun c ys q => by rw [delH_ne (neX q (by unfold xo; simp))]; exact q
      have M3 : Mono rho.aside H rho' (delH H' a) := by
        refine ⟨⟨fun b o e q => ?_, fun b o e q => M'.dead b o (by rw [upd_ne (ne e)]; exact e) q, M'.len, M'.old⟩, M'.ex, fun b hb n => ?_⟩
        · rw [delH_ne (ne e)]
          exact M'.keep b o (by rw [upd_ne (ne e)]; exact e) q
        · obtain ⟨o, e⟩ := (aside_rep S).res b hb
          have z := M'.held b hb (by rw [upd_ne (ne e)]; exact n)
          rw [upd_ne (ne e)] at z
          rw [delH_ne (ne e)]
          exact z
      have tb3 : LamX.Tabs R.tb (delH H' a) := fun q hq => by
        obtain ⟨ps, h1, h2, h3⟩ := S'.tab q hq
        refine ⟨ps, by rw [delH_ne (neX h1 (by unfold xo; simp))]; exact h1, h2, fun pos cv hc => ?_⟩
        obtain ⟨c', e1, e2⟩ := h3 pos cv hc
        refine ⟨c', e1, ?_⟩
        rw [delH_ne (fun z => ?_)]
        · exact e2
        · subst z
          obtain ⟨⟨oc, vs, t, k1, k2, k3⟩, _⟩ := hok _ _ e2
          rw [hA] at k1
          cases k1
          rw [dat] at k2
          cases k2
          rw [d10] at k3
          cases k3
      obtain ⟨M4, S4, D4⟩ := aside_back S M3 tb3 fun b qs hb e => by
        obtain ⟨o, q⟩ := S'.res b (by rw [M'.ex]; exact hb)
        exact ⟨o, by rw [delH_ne (ne e)]; exact q⟩
      exact ⟨v', delH H' a, os, bare, un3, hok3, rv, hQ v' _ M4 S4 (RepV.del atA v v' nx (RepV.pure D4 v v' pv r'))⟩
end
end OL
set_option maxRecDepth 100000
set_option maxHeartbeats 0
/-! ## f(lambda: ..): the whole call -/
namespace OL
open PySem PySem.Spec
open PyProof.Rows L2
theorem RoomG.marked {n m : Nat} {A : Around} (h : RoomG false n A) (l : m ≤ n) (x : Option Value) : RoomG true m (A.mark x) := ⟨(h.mono l).dp, (h.mono l).un, h.g, fun z => by cases z⟩
theorem RoomG.plain {n : Nat} {A : Around} (h : RoomG false n A) : Room n A := ⟨h.hd rfl, h.dp, h.un⟩
/-- a def that catches: its names, and where they stand -/
structure Cat where
  N : List Str
  sc : Scope
  act : Str
  tel : Str
  nm : Str
  hn : Str
  y1 : Str
  y2 : Str
  y3 : Str
  it : Nat
  im : Nat
  jh : Nat
  hits : List Nat
  ret : Expr
/-- its text -/
def Cat.Text (c : Cat) (bd : List Stmt) : Prop := ∃ (p1 p2 p3 p4 p5 p6 p7 p8 p9 p10 p11 p12 p13 p14 q : Pos) (kk : Nat), bd = [.Try [.Assign [.Name c.tel p1] (.Call (.Name c.act p2) [] [] p3) p4]
  [.ExceptHandler (some (.Tuple [.Name c.y1 p5, .Name c.y2 p6, .Name c.y3 p7] kk p8)) (some c.nm) [.Return (some (.Call (.Name c.hn p9) [.Name c.nm p10] [] p11)) p12] p13] [] [] p14, .Return (some c.ret) q]
structure CatOk (c : Cat) (R : RC) (K : PySem.W.Frag) (mg : Str → Option Value) (f : Addr) (name qual : Str) (pa : Arguments) (bd : List Stmt) (dV kV doc pm cdv cty oc : Value) (an od : Option Addr) (osl : Array (Option Value)) : Prop where
  lk : K.lookup f = some ⟨oc, od, .func (PySem.W.fnOf name qual pa bd c.sc dV kV doc pm an cdv cty), osl⟩
  code : PySem.W.codeIn K cdv qual = true
  keep : PySem.W.keepIn K (.ref f) = true
  bind : ∀ (s : Shared) (us : List Value), K.In s.heap → us.length = 1 → BindsTo s (PySem.W.fnOf name qual pa bd c.sc dV kV doc pm an cdv cty) ⟨us, []⟩ ([c.act].zip us)
  S : FnScope c.N [c.act] c.sc
  tel : c.N[c.it]? = some c.tel ∧ c.sc.names.lookup c.tel = some .local
  nm : c.N[c.im]? = some c.nm ∧ c.sc.names.lookup c.nm = some .local ∧ (c.nm == ("__debug__" : Str)) = false ∧ (c.nm == ("__classdict__" : Str)) = false
  act : (c.act == ("__debug__" : Str)) = false ∧ (c.act == ("__classdict__" : Str)) = false
  hn : c.sc.names.lookup c.hn = some .globalImplicit ∧ mg c.hn = some (.ref (R.fA c.jh)) ∧ PySem.W.keepIn K (.ref (R.fA c.jh)) = true ∧ (c.hn == ("__debug__" : Str)) = false
  ys : ∃ v1 v2 v3, (c.sc.names.lookup c.y1 = some .globalImplicit ∧ mg c.y1 = some v1 ∧ (c.y1 == ("__debug__" : Str)) = false) ∧ (c.sc.names.lookup c.y2 = some .globalImplicit ∧ mg c.y2 = some v2 ∧ (c.y2 == ("__debug__" : Str)) = false) ∧
    (c.sc.names.lookup c.y3 = some .globalImplicit ∧ mg c.y3 = some v3 ∧ (c.y3 == ("__debug__" : Str)) = false) ∧ ∀ k ∈ c.hits, PySem.W.exmAny K (.ref (R.cA k)) [v1, v2, v3] = some true
def Cat.hit (c : Cat) (k : Nat) : Bool := c.hits.contains k
section
variable {R : RC} {fD : Nat → FuncData} {T Th : List FnI} {X : Cx} {W : WX} {k : Nat}
theorem pe_caught {c : Cat} {f cO tA : Addr} {name qual x : Str} {pg : Arguments} {bg : List Stmt} {dV kV doc pm cdv cty oc : Value} {an od : Option Addr} {osl : Array (Option Value)} {pa : Arguments} {bd : Expr} {sc : Scope} {lv : Nat} {me mr : D PV} {p lpos pos : Pos}
    (C : CatOk c R X.K X.mg f name qual pg bg dV kV doc pm cdv cty oc an od osl) (ht : c.Text bg) (hg : Gl X x) (hm : X.mg x = some (.ref f)) (hdb : (x == ("__debug__" : Str)) = false) (hRK : R.K = X.K) (tk : Takes X W)
    (TB : LamX.TabB X.base X.mg cO tA) (hcd : X.env.code = .ref cO) (hin : (tA, X.env.qual ++ "<lambda>") ∈ R.tb) (one : ∀ p ∈ R.tb, p.1 = tA → p.2 = X.env.qual ++ "<lambda>") (L : LamX.LamS X.env.scope sc) (nodef : defaultsOf pa X.env = ([], []))
    (none_ : ∀ (q : Str) (cl : List (Str × Addr)) (m1 cv m2 : Value), bindArgs (PySem.W.kla_fn "<lambda>" q pa bd sc cl m1 cv m2) ⟨[], []⟩ = pure []) (hr : RoomG false (lv + 2) X.A) (hlv : 24 ≤ lv + 1)
    (fs : Fns .hot R fD Th X.prog X.w X.K X.mg X.base 4) (pb : ∀ (j : Nat) fi, Th[j]? = some fi → ∀ (s : Shared) (us : List Value), X.K.In s.heap → us.length = fi.ps.length → BindsTo s (fD j) ⟨us, []⟩ (fi.ps.zip us))
    (body : ∀ (s s1 : Shared) (H1 : Hp) (E : XK) (g c2 : Addr), PE (LamX.lamCx X (X.A.deeper (envOfC qual c.sc s.heap.objs.size f cdv)) (envOfC qual c.sc s.heap.objs.size f cdv :: X.stack) s1 H1 E sc g c2) bd (tE R (callK T k) (fun cls d _ H' => E cls d H') me))
    (ret : ∀ (s : Shared) (H : Hp) (E : XK), PE (cxIn X c.N qual c.sc f cdv s H E) c.ret (tE R (callK T k) (fun cls d _ H' => E cls d H') mr)) :
    PE X (.Call (.Name x p) [.Lambda pa bd sc lpos] [] pos) (tE R (callK T k) W (dCaught c.hit Th c.jh c.N.length c.it me mr)) := by
  refine ⟨fun pins s sg H Q I ⟨rho, st, env, hE, hS, gd⟩ => ?_⟩
  refine wpAny_Call_Name_kw (ld_glob I hg hm ?_ hdb)
  refine PySem.W.callWith_K (h₀ := X.base) I.ok.mod.kin C.keep ?_ rfl rfl
  show wpAny _ _ (spliced ((false, eval (.Lambda pa bd sc lpos) X.env) :: backTo pos (starEach [] X.env))) _ _ s
  refine Calls.spliced_cons (lam_mk I TB hcd hin one hS.tab nodef (L.has I.ok) fun g c2 m1 m2 H1 s2 I1 stay T1 atG offH offS hco => ?_)
  refine Calls.spliced_nil ⟨I1.kIn, ?_⟩
  have tin := hS.tin _ hin
  obtain ⟨ps0, tb0, _⟩ := hS.tab _ hin
  have M1 : Mono rho H rho H1 := by
    refine ⟨⟨fun b o e q => stay b o (fun z => q.2 (by rw [z]; exact tin)) e, fun _ _ _ q => q, Nat.le_refl _, fun _ _ _ e => e⟩, rfl, fun b hb n => ?_⟩
    obtain ⟨o, e⟩ := hS.res b hb
    rw [stay b o (fun z => n ps0 (by rw [z]; exact tb0)) e, e]
  have S1 : StRep R rho st H1 := by
    refine ⟨hS.len, hS.inj, fun n u e => (hS.cell n u e).stay M1.toMonoV (fun b o e1 e2 => ⟨stay b o (fun z => hS.apart n b e1 (by rw [z]; exact tin)) e2, e1⟩) fun z => z, hS.apart, fun b hb => ?_, T1, hS.tin⟩
    by_cases hbt : b = tA
    · obtain ⟨ps1, e1, _⟩ := T1 _ hin
      exact ⟨_, by rw [hbt]; exact e1⟩
    · obtain ⟨o, e⟩ := hS.res b hb
      exact ⟨o, stay b o hbt e⟩
  obtain ⟨v1, v2, v3, n1, n2, n3, hits⟩ := C.ys
  have hlen : (L2.start c.N [V.ref g]).length = c.N.length := by
    have h0 : 1 ≤ c.N.length := by
      have := congrArg List.length C.S.pre
      simp at this
      omega
    simp [L2.start]
    omega
  have hrF : RoomG false (lv + 1) (X.A.deeper (envOfC qual c.sc s2.heap.objs.size f cdv)) := hr.deeper _
  have ha0 : c.N[0]? = some c.act := by
    have := C.S.pre
    cases hN : c.N with
    | nil => rw [hN] at this; simp at this
    | cons z zs => rw [hN] at this; simp at this; simp [this]
  have hva : Vis c.sc c.act := by
    rcases C.S.par c.act (List.mem_cons_self) with q | q
    · exact .inl q
    · exact .inr (.inl q)
  -- the exception, as the lambda lets it out
  let E1 : XK := fun cls d H' => ∃ rho1 st1 u ks xs, me (callK T k) env st = .exc u ks xs st1 ∧ Mono rho H1 rho1 H' ∧ StRep R rho1 st1 H' ∧ ExcRep R rho1 H' u ks xs cls d
  have rc : codeAny (model X.prog X.w) X.A (.call (.ref f) ⟨[.ref g], []⟩) (CR (L2.CX X.prog X.w) X.stack X.prog X.w H1 s2 Q (fun cls d H' => W cls d sg H')) s2 := by
    refine LamX.run_ofS (N := c.N) (ps := [c.act]) (us := [.ref g]) (vs := [.ref g]) C.lk C.code C.S (k := lv + 1) hr.plain I1.env0 (C.bind s2 [.ref g] I1.kIn rfl) (.cons rfl .nil) rfl fun _ => ?_
    obtain ⟨p1, p2, p3, p4, p5, p6, p7, p8, p9, p10, p11, p12, p13, p14, q, kk, rfl⟩ := ht
    refine ⟨_, pss_cons (ps_try3 (X := cxIn X c.N qual c.sc f cdv s2 H1 (fun cls d H' => W cls d sg H')) (i := c.im) (v1 := v1) (v2 := v2) (v3 := v3)
      (tb := fun W' D sz Hz => ∃ E : XK, (∀ cls d sg' H', E cls d H' → W' cls d sg' H') ∧ sz[0]? = some (some (.ref g)) ∧ Hz c2 = some (LamX.CodeO c2 (X.env.qual ++ "<lambda>")) ∧ tE R (callK T k) (fun cls d _ H' => E cls d H') me sg Hz (fun v H' => D.nx (sz.set c.it (some v)) H'))
      (ts := fun a cls d D sz Hz => tHot R Th c.jh c.im a cls d sz Hz D.rt) rfl rfl C.S.nd C.nm.1 C.nm.2.1 n1 n2 n3 (fun W' pn xe tk' _ => ?_) (fun a oe cls d pn hz hdat hnb => ?_)) (pss_one (ps_ret (ret s2 H1 _))), ?_⟩
    · refine ⟨fun pz sz0 sz Hz D Iz ⟨E, hW, h1, h2, h3⟩ => ?_⟩
      have hp := act_g (p1 := p2) (p2 := p3) (lv := lv) (j := 0) I1 L atG offH offS (none_ _ _ _ _ _) tk' hW hrF (fun s1 H2 => body s2 s1 H2 E g c2) ha0 hva C.act.1 C.act.2
      have hq := pss_one (st := .Assign [.Name c.tel p1] (.Call (.Name c.act p2) [] [] p3) p4) (ps_set (X := (cxIn X c.N qual c.sc f cdv s2 H1 (fun cls d H' => W cls d sg H')).tr pn xe) (i := c.it) (pos := p4) C.S.nd C.tel.1 (.inl C.tel.2) hp rfl (.inr C.tel.2))
      exact hq.run pz sz0 sz Hz D Iz ⟨h1, h2, h3⟩
    · exact pss_one (ps_ret (pe_hot (X := cxIn X c.N qual c.sc f cdv s2 H1 (fun cls d H' => W cls d sg H')) hz hdat hnb hRK fs pb (hrF.marked (by omega) _) C.hn.1 C.hn.2.1 C.hn.2.2.1 C.hn.2.2.2 C.nm.1 (.inl C.nm.2.1) C.nm.2.2.1 C.nm.2.2.2))
    · refine ⟨E1, fun cls d sg' H' ⟨rho1, st1, u, ks, xs, e1, m1, s1, x1⟩ => ?_, rfl, hco, ?_⟩
      · unfold dCaught at gd
        rw [e1] at gd
        simp only at gd
        split at gd
        · rename_i hh
          refine ⟨?_, fun a sz na hsz => ?_⟩
          · rw [x1.1]
            exact hits u (List.contains_iff_mem.mp hh)
          · unfold hotF at gd
            split at gd
            · rename_i v st2 px hrun
              split at gd
              · rename_i hv
                simp only [Bool.and_eq_true] at hv
                exact ⟨hsz, rho1, st1, u, ks, xs, v, st2, s1, x1, hrun, px, hv.1, hv.2, fun v' H'' m2 s2 r2 => gd rho1 H'' v' ((M1.trans m1).trans m2) s2 r2⟩
              · exact gd.elim
            · exact gd.elim
        · exact gd.elim
      · refine ⟨rho, st, env, hE.mono M1, S1, ?_⟩
        unfold dCaught at gd
        cases e1 : me (callK T k) env st with
        | bad => rw [e1] at gd; exact gd.elim
        | exc u ks xs st1 => exact fun rho' H' cls d m s x => ⟨rho', st1, u, ks, xs, e1, m, s, x⟩
        | ok v st1 =>
          rw [e1] at gd
          refine fun rho' H' b m s r => ⟨rho', st1, (List.replicate c.N.length none).set c.it (some v), ⟨?_, fun i y e => ?_⟩, s, Good.shift (M1.trans m) gd⟩
          · rw [List.length_set, List.length_set, List.length_replicate, hlen]
          · by_cases hi : i = c.it
            · subst hi
              have lt := (List.getElem?_eq_some_iff.mp C.tel.1).1
              rw [List.getElem?_set_self (by simpa using lt)] at e
              cases e
              exact ⟨b, List.getElem?_set_self (by rw [hlen]; exact lt), r⟩
            · rw [List.getElem?_set_ne (Ne.symm hi), List.getElem?_replicate] at e
              split at e <;> cases e
  refine wpAny_call (codeAny_mono rc fun r s' hq => ?_)
  have z := back_g (nc := false) tk I1 r s' hq
  cases r with
  | error e => exact z
  | ok fl => cases fl with
    | ret u => exact z
    | next => exact z
    | brk => exact z
    | cont => exact z
end
end OL
set_option maxRecDepth 100000
set_option maxHeartbeats 0
/-! ## try: .. except X: raise C(n) from None -/
namespace OL
open PySem PySem.Spec
open PyProof.Rows L2
/-- the body is told by defs that raise without a context -/
def sTryX (Tn : List FnI) (hit : Nat → Bool) (body : SD) (m : D PV) : SD := fun F e st => match body (callK Tn 3) e st with
  | .ok (.ex c _ _ e1) s => if hit c then sRaise m F e1 s else .bad
  | r => r
section
variable {R : RC} {W : WX} {X : Cx} {F : CallT} {Tn : List FnI}
theorem ps_tryX {y x nm : Str} {cv : Value} {c i : Nat} {ps : List Str} {ks : List Nat} {sel : List Sel} {hit : Nat → Bool} {body : List Stmt} {mb : SD} {np p pos p2 rp cpos hpos tpos : Pos} {j : Nat} {hot : Bool}
    (hs : X.stack = X.env :: X.outer) (hf : X.env.frame = some X.env.locals) (hpa : ∀ hd : Option Value, PassesOwnAt (model X.prog X.w) (X.A.mark hd) X.A X.env X.xe) (tk : L2.Takes X W)
    (hy : Gl X y ∧ X.mg y = some cv ∧ (y == ("__debug__" : Str)) = false) (hh : ∀ k, hit k = true → PySem.W.exmOne X.K (.ref (R.cA k)) cv = some true)
    (xc : XcOk R X.K X.prog c ps ks) (hr : RoomG hot 2 X.A) (hg : Gl X x) (hm : X.mg x = some (.ref (R.cA c))) (hdb : (x == ("__debug__" : Str)) = false) (ok : allOk ps [] 2 0 = true) (hse : selNew ps [] 1 [] = some sel)
    (hN : X.N[i]? = some nm) (hv : Vis X.env.scope nm) (hd1 : (nm == ("__debug__" : Str)) = false) (hd2 : (nm == ("__classdict__" : Str)) = false)
    (hb : ∀ (W' : WX) (pn : List (Addr × Obj)) (xe : Value → Shared → Prop), L2N.Takes (X.tr pn xe) W' → PassesOwn (model X.prog X.w) X.A X.env xe → PSs (X.tr pn xe) body (tS R (callK Tn 3) W' mb)) :
    PS X (.Try body [.ExceptHandler (some (.Name y np)) none [.Raise (some (.Call (.Name x p) [.Name nm p2] [] pos)) (some (.Constant .none j cpos)) rp] hpos] [] [] tpos) (tS R F W (sTryX Tn hit mb (dXNew c ks [dV i] sel))) := by
  refine PS.weak (L2H.ps_try_onlyX (X := X) (c := cv) (tb := fun W' => tS R (callK Tn 3) W' mb) (ts := fun _ _ _ _ sg H => tMk R F W c ks [dV i] sel sg H (fun cls d H' => W cls d sg H')) hs hf ⟨hy.1, hy.2.2, .inl hy.2.1⟩ hpa tk (fun W' pn xe t1 _ po => hb W' pn xe t1 po)
    (fun a oe cls d pn hz hdat tkS hot' => ?_)) fun En sg H ⟨rho, st, env, hE, hS, g⟩ => ?_
  · have ha : PA (L2H.suiteX X a ((a, oe) :: pn)) [.Name nm p2] (tL R F W (dArgs [dV i])) := PA.weak (pa_cons (PE.weak (pe_var (X := L2H.suiteX X a ((a, oe) :: pn)) (pos := p2) (i := i) hN hv hd1 hd2) fun sg H Q q => te_V (R := R) (F := F) (W := W) q) (PA.weak pa_nil fun sg H Q q => te_argsNil Q q) rfl) fun sg H Q q => te_argsCons Q q
    have hk : PK (L2H.suiteX X a ((a, oe) :: pn)) [] (tL R F W (dArgs [])) := (pk_of (X := L2H.suiteX X a ((a, oe) :: pn)) (kws := []) (ms := []) .nil).1
    have hrS : RoomG true 2 (L2H.suiteX X a ((a, oe) :: pn)).A := ⟨hr.dp, hr.un, hr.g, fun z => by cases z⟩
    have mk := mk_xraise (R := R) (W := W) (X := L2H.suiteX X a ((a, oe) :: pn)) (F := F) (p := p) (pos := pos) (as := [dV i]) (bs := []) (kws := []) (sel := sel) xc hrS hg hm hdb ok hse ha hk rfl rfl rfl (fun e r q => by cases q; rfl) rfl (by simp)
    exact pss_one (PS.weak (L2H.ps_raiseHN hot' tkS mk) fun D sg H q => q)
  · refine ⟨rho, st, env, hE, hS, ?_⟩
    unfold sTryX at g
    cases e1 : mb (callK Tn 3) env st with
    | bad => rw [e1] at g; exact g
    | exc c' ks' xs' s' => rw [e1] at g; exact g
    | ok fl s1 =>
      rw [e1] at g
      cases fl with
      | nx e => exact g
      | bk e => exact g
      | ct e => exact g
      | rt v => exact g
      | ex c' ks' xs' e2 =>
        simp only at g
        split at g
        · rename_i hc
          intro rho' H' sg' cls d M S E ex
          refine ⟨true, by rw [ex.1]; exact hh c' hc, fun _ a na => ?_, fun z => by cases z⟩
          refine ts_raise (En := En) ⟨rho', s1, e2, E, S, ?_⟩
          exact GoodS.shift M g
        · exact g.elim
end
end OL
set_option maxRecDepth 100000
set_option maxHeartbeats 0
/-! ## the translation of the text into combinators -/
namespace OL
open PySem

inductive Gv where
  | c (v : PV)
  | f (j : Nat)
  | k (c : Nat)
structure Gam where
  b : Tb
  isa : Nat → Nat → Option Bool
  gl : List (Str × Gv)
  free : List Str
  aL : List Str
  mL : List Str
  ini : Nat → Option Nat
  mu : List (Nat × Nat)
  frz : List Nat
  sg : List (Nat × List Str × List PV)
  own : List Nat
  ow : List (Nat × Nat)
  cms : List ((Nat × Nat) × Nat)
  mks : List (Nat × Nat)
  xcs : List (Nat × (List Str × List Nat))
  xis : List (Nat × List ((Bool × Nat) × Bool))
  dvs : List (Nat × Nat)
  md : Md
  cat : List (Nat × Cat)
  ht : List FnI
  nt : List FnI
  xhs : List (Nat × List Nat)
def Gam.hot (g : Gam) : Bool := g.md.isHot
def Gam.cold (g : Gam) : Bool := match g.md with
  | .cold => true
  | _ => false
def Gam.nar (g : Gam) : Gam := { g with md := .nar }
def Gam.hit (g : Gam) (c k : Nat) : Bool := match g.xhs.lookup c with
  | some l => l.contains k
  | none => false
def Gam.xi (g : Gam) : Nat → Bool → Nat → Option Bool := fun c t d => (g.xis.lookup c).bind fun l => l.lookup (t, d)
def Gam.cm (g : Gam) : Nat → Nat → Option Nat := fun c i => g.cms.lookup (c, i)
def Gam.sgf (g : Gam) : Nat → Option (List Str × List PV) := fun j => g.sg.lookup j
def Gam.ownB (g : Gam) : Nat → Bool := fun c => g.own.contains c
/-- the i-th name, or one that nobody writes -/
def nameAt (l : List Str) (tag : Nat) (i : Nat) : Str := (l[i]?).getD ⟨#[tag, i]⟩
def Gam.aN (g : Gam) : Nat → Str := nameAt g.aL 2000000
def Gam.mN (g : Gam) : Nat → Str := nameAt g.mL 3000000
def isDv (g : Gam) (p : Pos) : Bool := g.dvs.contains (p.line, p.col)
def isMut (g : Gam) (p : Pos) : Bool := g.mu.contains (p.line, p.col)
structure Sc where
  N : List Str
  sc : Scope
  sto : Str → Bool
  lam : Bool
  tr : Bool
def ixS (x : Str) : List Str → Option Nat
  | [] => none
  | y :: r => if y = x then some 0 else (ixS x r).map (· + 1)
def slot (s : Sc) (x : Str) : Option Nat :=
  match s.sc.names.lookup x with
  | some .local => if (x == ("__debug__" : Str)) || (x == ("__classdict__" : Str)) then none else ixS x s.N
  | some .cell => if (x == ("__debug__" : Str)) || (x == ("__classdict__" : Str)) then none else ixS x s.N
  | some .free => if (x == ("__debug__" : Str)) || (x == ("__classdict__" : Str)) then none else ixS x s.N
  | _ => none
def slotS (s : Sc) (x : Str) : Option Nat :=
  match s.sc.names.lookup x with
  | some .local => ixS x s.N
  | some .cell => if s.sto x then ixS x s.N else none
  | _ => none
def globN (s : Sc) (x : Str) : Bool :=
  (match s.sc.names.lookup x with
  | some .globalImplicit => true
  | _ => false) && !(x == ("__debug__" : Str)) && !(x == ("__name__" : Str))
def opB : Operator → Option Op2
  | .Add => some oAdd
  | .Sub => some oSub
  | .Mult => some oMul
  | .FloorDiv => some oFdiv
  | .Mod => some oMod
  | .Pow => some oPow
  | _ => none
def opBm (mt : Bool) (op : Operator) : Option Op2 := match mt, op with
  | true, .Add => some oAddM
  | _, op => opB op
def opC : CmpOp → Op2
  | .Eq => oEq
  | .NotEq => oNe
  | .Lt => oLt
  | .LtE => oLe
  | .Gt => oGt
  | .GtE => oGe
  | .Is => oIs
  | .IsNot => oIsNot
  | .In => oIn
  | .NotIn => oNotIn
/-- == and != where an instance may stand -/
def cmpG (g : Gam) : CmpOp → Option (CallT → Op2)
  | .Eq => (ixS "__eq__" g.mL).map fun m => cmpO g.ownB g.b m false
  | .NotEq => (ixS "__eq__" g.mL).map fun m => cmpO g.ownB g.b m true
  | _ => none
/-- str, repr, bool where an instance may stand -/
def bltG (g : Gam) (x : Str) : Option (CallT → OpN) :=
  if x = "str" then (ixS "__str__" g.mL).map fun m => bOwn g.ownB g.b m bStr else if x = "repr" then (ixS "__repr__" g.mL).map fun m => bOwn g.ownB g.b m bRepr else if x = "bool" then some fun _ => bBoolO g.ownB else none
def dNF (o : CallT → OpN) (as : List (D PV)) : D PV := fun F e st => dN (o F) as F e st
def tyCode (x : Str) : Option Nat :=
  if x = "int" then some 0 else if x = "bool" then some 1 else if x = "str" then some 2 else if x = "tuple" then some 3 else if x = "list" then some 4 else if x = "dict" then some 5 else if x = "ValueError" then some 7 else if x = "LookupError" then some 8 else if x = "ArithmeticError" then some 9 else none
/-- what may raise within -/
def walksB (x : Str) : Bool := decide (x = "all") || decide (x = "any") || decide (x = "sum") || decide (x = "max") || decide (x = "min")
def bltO (isa : Nat → Nat → Option Bool) (xi : Nat → Bool → Nat → Option Bool) (x : Str) (mt : Bool) : Option OpN :=
  if x = "len" then some bLen else if x = "int" then some bInt else if x = "abs" then some bAbs else if x = "max" then some bMax else if x = "min" then some bMin
  else if x = "divmod" then some bDivmod else if x = "str" then some bStr else if x = "repr" then some bRepr else if x = "all" then some bAll else if x = "any" then some bAny
  else if x = "sum" then some bSum else if x = "list" then some (bList mt) else if x = "tuple" then some bTuple else if x = "isinstance" then some (bIsi isa xi) else none
def isSet : Expr → Bool
  | .Set _ _ _ => true
  | _ => false
def isComp : Expr → Bool
  | .ListComp _ _ _ _ => true
  | .SetComp _ _ _ _ => true
  | .DictComp _ _ _ _ _ => true
  | _ => false
def isStar : Expr → Bool
  | .Starred _ _ => true
  | _ => false
def isSuper : Expr → Bool
  | .Call (.Name id _) [] [] _ => id == ("super" : Str)
  | _ => false
def isLC : Expr → Bool
  | .ListComp _ _ _ _ => true
  | _ => false
def isTup : Expr → Bool
  | .Tuple _ _ _ => true
  | _ => false
def isSlice : Expr → Bool
  | .Slice _ _ _ _ => true
  | _ => false
/-- the test of these is no test of a value -/
def ownTest : Expr → Bool
  | .UnaryOp .Not _ _ => true
  | .BoolOp _ _ _ => true
  | .IfExp _ _ _ _ => true
  | .Compare _ _ _ _ => true
  | _ => false
def andL : List (D PV) → D PV
  | [] => fun _ _ _ => .bad
  | [a] => a
  | a :: r => dAnd a (andL r)
def orL : List (D PV) → D PV
  | [] => fun _ _ _ => .bad
  | [a] => a
  | a :: r => dOr a (orL r)
def andT : List (D Bool) → D Bool
  | [] => fun _ _ _ => .bad
  | [a] => a
  | a :: r => tAndT a (andT r)
def orT : List (D Bool) → D Bool
  | [] => fun _ _ _ => .bad
  | [a] => a
  | a :: r => tOrT a (orT r)
def isMk (g : Gam) (p : Pos) : Bool := g.mks.contains (p.line, p.col)
def isOw (g : Gam) (p : Pos) : Bool := g.ow.contains (p.line, p.col)
/-- a comprehension's own names, by slot -/
def ownOf (N : List Str) (scope : Scope) : List (Str × Nat) := scope.names.filterMap fun (x, k) => match k with
  | .local => (ixS x N).map fun i => (x, i)
  | .cell => (ixS x N).map fun i => (x, i)
  | _ => none
def blkSc (s : Sc) (scope : Scope) : Sc := ⟨s.N, L2.relS scope s.sc, fun x => scope.names.lookup x == some .cell, false, false⟩
def namesOf (s : Sc) : List Expr → Option (List Nat)
  | [] => some []
  | .Name x _ :: r => match slotS s x, namesOf s r with
    | some i, some t => some (i :: t)
    | _, _ => none
  | _ => none
def ctgOf (s : Sc) : Expr → Option CTg
  | .Name x _ => (slotS s x).map .nm
  | .Tuple ts _ _ => (namesOf s ts).map .tp
  | _ => none
/-- the arguments of range(..) -/
def rngOf (g : Gam) (s : Sc) : Expr → Option (List Expr)
  | .Call (.Name x _) args [] _ => if globN s x && decide (x = "range") && g.free.contains x && (g.gl.lookup x).isNone then some args else none
  | _ => none
/-- enumerate(a), zip(a, b) where the target is a tuple -/
def itrOf (g : Gam) (s : Sc) (tg : Expr) : Expr → Option (Expr ⊕ (Expr × Expr))
  | .Call (.Name x _) [a] [] _ => if isTup tg && globN s x && decide (x = "enumerate") && g.free.contains x && (g.gl.lookup x).isNone && !isStar a then some (.inl a) else none
  | .Call (.Name x _) [a, b] [] _ => if isTup tg && globN s x && decide (x = "zip") && g.free.contains x && (g.gl.lookup x).isNone && !isStar a && !isStar b then some (.inr (a, b)) else none
  | _ => none
/-- no parameters -/
def noArgs : Arguments → Bool
  | ⟨[], [], none, [], [], none, []⟩ => true
  | _ => false
/-- f(..), C(..), a built-in's call -/
def callO (g : Gam) (mt ow : Bool) (x : Str) (as bs : List (D PV)) (kws : List Keyword) : Option (D PV) :=
  match g.gl.lookup x with
  | some (.f j) => (match g.sg.lookup j with
    | none => if kws.isEmpty then some (dCall j as) else none
    | some (ps, dfl) => if kws.isEmpty && as.length == ps.length then some (dCall j as)
      else if kwOk kws && allOk ps (kwNames kws) as.length dfl.length then some (dCallK j (as ++ bs) (selOf ps (kwNames kws) as.length dfl)) else none)
  | some (.k c) => (match g.ini c with
    | none => (match g.xcs.lookup c with
      | none => none
      | some (ps, ks) => if ps.isEmpty then (if kws.isEmpty && as.isEmpty && ks.isEmpty then some (dXNew0 c) else none)
        else if kwOk kws && allOk ps (kwNames kws) (as.length + 1) 0 && decide (as.length ≤ 1000) then (selNew ps (kwNames kws) as.length []).map fun sel => dXNew c ks (as ++ bs) sel else none)
    | some j => (match g.sg.lookup j with
      | none => if kws.isEmpty && !as.isEmpty then some (dNew mt c j as) else none
      | some (ps, dfl) => if kws.isEmpty && !as.isEmpty && as.length + 1 == ps.length then some (dNew mt c j as)
        else if kwOk kws && allOk ps (kwNames kws) (as.length + 1) dfl.length then (selNew ps (kwNames kws) as.length dfl).map fun sel => dNewK mt c j (as ++ bs) sel else none))
  | some (.c _) => none
  | none => if kws.isEmpty && g.free.contains x && !as.isEmpty then (if ow then (bltG g x).map fun o => dNF o as else if g.hot && walksB x then none else (bltO g.isa g.xi x mt).map fun o => dN o as) else none
/-- raise C(..) -/
def raiseO (g : Gam) (x : Str) (as bs : List (D PV)) (kws : List Keyword) : Option SD :=
  match g.gl.lookup x with
  | some (.k c) => (match g.xcs.lookup c with
    | some (ps, ks) => if !ps.isEmpty && kwOk kws && allOk ps (kwNames kws) (as.length + 1) 0 && decide (as.length ≤ 1000) then (selNew ps (kwNames kws) as.length []).map fun sel => sRaise (dXNew c ks (as ++ bs) sel) else none
    | none => none)
  | _ => none
/-- methods of built-in types -/
def bmO (mt : Bool) (m : Str) (mo : D PV) : List (D PV) → Option (D PV)
  | [a] => if m = "append" then some (dLM oAppend mo a) else if m = "index" then some (dLM oIndex mo a) else if m = "count" then some (dLM oCount mo a) else if m = "split" then some (dSM (oSplit mt) mo a)
    else if m = "find" then some (dSM oFind mo a) else if m = "join" then some (dSM oJoin mo a) else none
  | [a, b] => if m = "get" then some (dGet2 mo a b) else none
  | _ => none
mutual
def denE (g : Gam) : Nat → Sc → Expr → Option (D PV)
  | 0, _, _ => none
  | n + 1, s, .Constant .none _ _ => some (dK .non)
  | n + 1, s, .Constant (.bool b) _ _ => some (dK (.bl b))
  | n + 1, s, .Constant (.int i) _ _ => some (dK (.int i))
  | n + 1, s, .Constant (.str x) _ _ => some (dK (.str x))
  | n + 1, s, .Name x _ => match slot s x with
    | some i => some (dV i)
    | none => if globN s x then (match g.gl.lookup x with
      | some (.c v) => some (dK v)
      | some (.k c) => some (dK (.cls c))
      | some (.f j) => some (dK (.fn j))
      | none => if g.free.contains x then (tyCode x).map fun m => dK (.ty m) else none) else none
  | n + 1, s, .BinOp a op b p => do
    let o ← opBm (isMut g p) op
    let ma ← denE g n s a
    let mb ← denE g n s b
    some (d2 o ma mb)
  | n + 1, s, .UnaryOp .USub a _ => (denE g n s a).map (d1 oNeg)
  | n + 1, s, .UnaryOp .Not a _ => (denE g n s a).map dNot
  | n + 1, s, .BoolOp .And es _ => if es.isEmpty then none else (denEs g n s es).map andL
  | n + 1, s, .BoolOp .Or es _ => if es.isEmpty then none else (denEs g n s es).map orL
  | n + 1, s, .Compare a [op] [b] p => do
    let ma ← denE g n s a
    let mb ← denE g n s b
    if isSet b then none else if isOw g p then (cmpG g op).map fun o => d2F o ma mb else some (d2 (opC op) ma mb)
  | n + 1, s, .Compare a [op, op'] [b, c] _ => do
    let ma ← denE g n s a
    let mb ← denE g n s b
    let mc ← denE g n s c
    if isSet b || isSet c then none else some (dChain (opC op) (opC op') ma mb mc)
  | n + 1, s, .IfExp t a b _ => do
    let mt ← denT g n s t
    let ma ← denE g n s a
    let mb ← denE g n s b
    some (tIfE mt ma mb)
  | n + 1, s, .Tuple es _ _ => (denEs g n s es).map dTup
  | n + 1, s, .JoinedStr (a :: b :: r) _ => (denEs g n s (a :: b :: r)).map fun ms => dJs ms Str.empty
  | n + 1, s, .FormattedValue e (-1) none _ => (denE g n s e).map (d1 oFmt)
  | n + 1, s, .Dict [] [] p => if isDv g p then some (dDictV [] []) else some (dDict0 (isMut g p))
  | n + 1, s, .Dict (k :: ks) vs p => (match keysC (k :: ks), mapO valC vs with
    | some ks', some xs => if decide ((k :: ks).length = vs.length) && decide ((k :: ks).length ≤ 15) && decide ks'.Nodup then (if isDv g p then some (dDictV ks' xs) else some (dDictC ks' xs)) else none
    | _, _ => none)
  | n + 1, s, .List es p => (denEs g n s es).map (dLst (isMut g p))
  | n + 1, s, .Subscript a (.Slice lo hi none _) p => do
    let ma ← denE g n s a
    let ml ← denO g n s lo
    let mh ← denO g n s hi
    some (dCut (isMut g p) ma ml mh)
  | n + 1, s, .Subscript a i _ => do
    let ma ← denE g n s a
    let mi ← denE g n s i
    if isSlice i then none else some (d2 oIx ma mi)
  | n + 1, s, .Attribute a f _ => do
    let ma ← denE g n s a
    let k ← ixS f g.aL
    if isSuper a then none else some (dAttr g.b k ma)
  | n + 1, s, .ListComp elt [⟨tg, iter, ifs, 0⟩] scope p => do
    let mi ← denI g n s tg iter
    let own := ownOf s.N scope
    let c ← ctgOf (blkSc s scope) tg
    let t ← (match ifs with
      | [] => some tYesT
      | [e] => denT g n (blkSc s scope) e
      | _ => none)
    let m ← denE g n (blkSc s scope) elt
    if !g.hot && L2.blkC s.N s.sc scope own && !isSet iter && (match c with
      | .nm i => (own.map (·.2)).contains i
      | .tp is => is.all fun i => (own.map (·.2)).contains i) then some (dComp (isMut g p) mi (own.map (·.2)) c t m) else none
  | n + 1, s, .Call (.Name x _) [.Lambda pa body scope _] [] _ => if !g.cold || !s.lam || !globN s x || !LamX.lamSB s.sc scope || !noArgs pa then none else (match g.gl.lookup x with
    | some (.f j) => (match g.cat.lookup j with
      | some c => (do
        let e ← denE g n ⟨s.N, scope, fun _ => false, false, false⟩ body
        let r ← denE g n ⟨c.N, c.sc, fun _ => true, false, false⟩ c.ret
        some (dCaught c.hit g.ht c.jh c.N.length c.it e r))
      | none => none)
    | _ => none)
  | n + 1, s, .Call (.Name x _) args kws p => do
    let as ← denEs g n s args
    let bs ← denKs g n s kws
    if globN s x then callO g (isMut g p) (isOw g p) x as bs kws else (match slot s x with
      | some i => if kwOk kws then some (dNewV (isMut g p) g.ini g.sgf (dV i) as bs (kwNames kws)) else none
      | none => none)
  | n + 1, s, .Call (.Attribute o m ap) args kws p => do
    let mo ← denE g n s o
    let as ← denEs g n s args
    let bs ← denKs g n s kws
    if isSuper o || !(ap.endLine == p.line) || !(args.length + kws.length < 29) then none else (match ixS m g.mL with
      | some i => if kws.isEmpty && !isMk g p then some (dMeth g.b i mo as) else if kwOk kws then some (dMethK g.b g.cm g.sgf i mo as bs (kwNames kws)) else none
      | none => if kws.isEmpty then bmO (isMut g p) m mo as else none)
  | _ + 1, _, _ => none
def denEs (g : Gam) : Nat → Sc → List Expr → Option (List (D PV))
  | 0, _, _ => none
  | n + 1, s, [] => some []
  | n + 1, s, e :: r => do
    let m ← denE g n s e
    let ms ← denEs g n s r
    if isStar e then none else some (m :: ms)
def denKs (g : Gam) : Nat → Sc → List Keyword → Option (List (D PV))
  | 0, _, _ => none
  | n + 1, s, [] => some []
  | n + 1, s, ⟨_, e, _⟩ :: r => do
    let m ← denE g n s e
    let ms ← denKs g n s r
    some (m :: ms)
def denO (g : Gam) : Nat → Sc → Option Expr → Option (Option (D PV))
  | 0, _, _ => none
  | n + 1, s, none => some none
  | n + 1, s, some e => (denE g n s e).map some
def denT (g : Gam) : Nat → Sc → Expr → Option (D Bool)
  | 0, _, _ => none
  | n + 1, s, .UnaryOp .Not a _ => (denT g n s a).map tNotT
  | n + 1, s, .BoolOp .And es _ => if es.isEmpty then none else (denTs g n s es).map andT
  | n + 1, s, .BoolOp .Or es _ => if es.isEmpty then none else (denTs g n s es).map orT
  | n + 1, s, .Compare a [op] [b] p => do
    let ma ← denE g n s a
    let mb ← denE g n s b
    if isSet b then none else if isOw g p then (cmpG g op).map fun o => tBl (d2F o ma mb) else some (tBl (d2 (opC op) ma mb))
  | n + 1, s, .Compare a [op, op'] [b, c] _ => do
    let ma ← denE g n s a
    let mb ← denE g n s b
    let mc ← denE g n s c
    if isSet b || isSet c then none else some (tBl (dChain (opC op) (opC op') ma mb mc))
  | n + 1, s, e => if ownTest e then none else (denE g n s e).map tVal
def denTs (g : Gam) : Nat → Sc → List Expr → Option (List (D Bool))
  | 0, _, _ => none
  | n + 1, s, [] => some []
  | n + 1, s, e :: r => do
    let m ← denT g n s e
    let ms ← denTs g n s r
    some (m :: ms)
def denI (g : Gam) : Nat → Sc → Expr → Expr → Option (D Src)
  | 0, _, _, _ => none
  | n + 1, s, tg, e => match rngOf g s e with
    | some [a] => (do
      let ma ← denE g n s a
      if isStar a then none else some (dRng1 ma))
    | some [a, b] => (do
      let ma ← denE g n s a
      let mb ← denE g n s b
      if isStar a || isStar b then none else some (dRng2 ma mb))
    | some _ => none
    | none => (match itrOf g s tg e with
      | some (.inl a) => (denE g n s a).map dEnum
      | some (.inr (a, b)) => (do
        let ma ← denE g n s a
        let mb ← denE g n s b
        some (dZip ma mb))
      | none => (denE g n s e).map dSrc)
end
/-! targets -/
mutual
def denG (g : Gam) : Nat → Sc → Expr → Option G
  | 0, _, _ => none
  | n + 1, s, .Name x _ => (slotS s x).map gNm
  | n + 1, s, .Tuple ts _ _ => if g.hot then none else (denGs g n s ts).map gTq
  | n + 1, s, .Subscript o i _ => do
    let mo ← denE g n s o
    let mi ← denE g n s i
    if isSlice i then none else some (gSb mo mi)
  | _ + 1, _, _ => none
def denGs (g : Gam) : Nat → Sc → List Expr → Option (List G)
  | 0, _, _ => none
  | n + 1, s, [] => some []
  | n + 1, s, e :: r => do
    let m ← denG g n s e
    let ms ← denGs g n s r
    if isStar e then none else some (m :: ms)
end
/-- a, b = x, y: the names that are stored without a tuple; none where the model has no answer -/
def swN (sc : Scope) (ts : List Expr) : List Str := ts.filterMap fun
  | .Name id pos => if sc.names.lookup id == some .local && pos.line == (ts.head?.map (·.pos.line)).getD 0 then some id else none
  | _ => none
def swP (sc : Scope) (ts vs : List Expr) : Option (Option (List Str)) :=
  if !(ts.length == 2 || ts.length == 3) || vs.length != ts.length then some none
  else if vs.any isStar then some none
  else if (swN sc ts).length != ts.length || (swN sc ts).eraseDups.length != (swN sc ts).length then some none
  else if vs.all (foldedForSure 8) then some none
  else if vs.all (constantsAlone 8) then none
  else some (some (swN sc ts))
/-- name = [..]: the list comes first, or the comprehension's names go first -/
def swC (s : Sc) (y : Str) (py : Pos) : Expr → Bool
  | .ListComp _ _ scope pos => (s.sc.names.lookup y == some .local) && (py.line == pos.line) && !(scope.names.any fun (n, k) => n == y && (k == .local || k == .cell))
  | _ => false
/-- a, b = x, y -/
def parO (s : Sc) (ts vs : List Expr) (ms : List (D PV)) (mg : Option (List G)) : Option SD :=
  match swP s.sc ts vs with
  | some none => mg.map fun gs => sAsg (dTup ms) (gTp gs)
  | some (some [x, y]) => (match ts, ms, slotS s x, slotS s y with
    | [.Name x' _, .Name y' _], [a, b], some i, some j => if x' = x ∧ y' = y ∧ i ≠ j ∧ s.sc.names.lookup x = some .local ∧ s.sc.names.lookup y = some .local then some (sPar i j a b) else none
    | _, _, _, _ => none)
  | some (some [x, y, z]) => (match ts, ms, slotS s x, slotS s y, slotS s z with
    | [.Name x' _, .Name y' _, .Name z' _], [a, b, c], some i, some j, some l => if x' = x ∧ y' = y ∧ z' = z ∧ i ≠ j ∧ i ≠ l ∧ j ≠ l ∧ s.sc.names.lookup x = some .local ∧ s.sc.names.lookup y = some .local ∧ s.sc.names.lookup z = some .local then some (sPar3 i j l a b c) else none
    | _, _, _, _, _ => none)
  | _ => none
/-- try: t = e / except y: raise x(nm) from None -/
def tryX (g : Gam) (n : Nat) (s : Sc) (t : Str) (e : Expr) (y x nm : Str) : Option SD :=
  if !g.cold || !s.tr || !globN s y || !globN s x || isComp e then none else (match g.gl.lookup y, g.gl.lookup x, slot s nm, slotS s t, denE g.nar n ⟨s.N, s.sc, s.sto, false, false⟩ e with
  | some (.k cy), some (.k c), some i, some it, some m => (match g.xcs.lookup c with
    | some (ps, ks) => if !ps.isEmpty && allOk ps [] 2 0 then (selNew ps [] 1 []).map fun sel => sTryX g.nt (g.hit cy) (sAsg m (gNm it)) (dXNew c ks [dV i] sel) else none
    | none => none)
  | _, _, _, _, _ => none)
def frzD (g : Gam) (p : Pos) (m : D PV) : D PV := if g.frz.contains p.line then d1 oFrz m else m
mutual
def denX (g : Gam) : Nat → Sc → Stmt → Option SD
  | 0, _, _ => none
  | n + 1, s, .Expr (.Constant (.str _) _ _) _ => some sNil
  | n + 1, s, .Expr e _ => if isComp e then none else (denE g n s e).map sEx
  | n + 1, s, .Pass _ => some sNil
  | n + 1, s, .Break _ => some sBrk
  | n + 1, s, .Continue _ => some sCnt
  | n + 1, s, .Return none _ => some sRetN
  | n + 1, s, .Return (some e) p => (denE g n s e).map fun m => sRet (frzD g p m)
  | n + 1, s, .If c a b _ => do
    let mc ← denT g n s c
    some (sIf mc (denB g n s a) (denB g n s b))
  | n + 1, s, .While c a [] _ => do
    let mc ← denT g n s c
    some (sWhile mc (denB g n s a))
  | n + 1, s, .For tg it a [] _ => do
    let mi ← denI g n s tg it
    let mg ← denG g n s tg
    if isSet it || g.hot then none else some (sFor mi mg (denB g n s a))
  | n + 1, s, .Assign [.Name x px] e _ => do
    let i ← slotS s x
    let m ← denE g n s e
    if isComp e && !isLC e then none else if isComp e && swC s x px e && !(s.sc.names.lookup x == some .local) then none else some (sAsg m (gNm i))
  | n + 1, s, .Assign [.Attribute o f _] e _ => do
    let mo ← denE g n s o
    let m ← denE g n s e
    let q ← ixS f g.aL
    some (sSetAt g.b mo q m)
  | n + 1, s, .Assign [.Tuple ts _ _] (.Tuple vs _ _) _ => do
    let ms ← denEs g n s vs
    if g.hot then none else parO s ts vs ms (denGs g n s ts)
  | n + 1, s, .Assign [.Tuple ts _ _] e _ => do
    let m ← denE g n s e
    let gs ← denGs g n s ts
    if isTup e || g.hot then none else some (sAsg m (gTq gs))
  | n + 1, s, .Assign [.Subscript o i _] e _ => do
    let m ← denE g n s e
    let mo ← denE g n s o
    let mi ← denE g n s i
    if isSlice i then none else some (sSub mo mi m)
  | n + 1, s, .AugAssign (.Name x _) .Add e _ => do
    let i ← slotS s x
    let m ← denE g n s e
    some (sAug i oIAdd m)
  | n + 1, s, .AugAssign (.Attribute o f _) .Add e _ => do
    let mo ← denE g n s o
    let q ← ixS f g.aL
    let m ← denE g n s e
    some (sAugA g.b mo q oInt m)
  | n + 1, s, .Raise (some (.Call (.Name x _) args kws _)) none _ => do
    let as ← denEs g n s args
    let bs ← denKs g n s kws
    if g.hot || !globN s x then none else raiseO g x as bs kws
  | n + 1, s, .Try [.Assign [.Name t pt] e pa] [.ExceptHandler (some (.Name y _)) none [.Raise (some (.Call (.Name x _) [.Name nm _] [] _)) (some (.Constant .none _ _)) _] _] [] [] _ => (match tryX g n s t e y x nm with
    | some m => some m
    | none => some (sTry (denB g n s [.Assign [.Name t pt] e pa]) (denB g n s [])))
  | n + 1, s, .Try body (_ :: _) orelse [] _ => some (sTry (denB g n s body) (denB g n s orelse))
  | _ + 1, _, _ => none
/-- a block; what is not read is never reached -/
def denB (g : Gam) : Nat → Sc → List Stmt → SD
  | 0, _, _ => sNever
  | n + 1, s, [] => sNil
  | n + 1, s, st :: r => sSeq ((denX g n s st).getD sNever) (denB g n s r)
end
end OL
set_option maxRecDepth 100000
set_option maxHeartbeats 0
/-! ## soundness of the translation -/
namespace OL
open PySem PySem.Spec
open PyProof.Rows L2

structure Gok (g : Gam) (R : RC) (fD : Nat → FuncData) (T : List FnI) (k : Nat) (P : Program) (w : World) (K : PySem.W.Frag) (mg : Str → Option Value) (base : Heap) : Prop where
  lk : Lnk R g.b g.mN fD T K
  aN : R.aN = g.aN
  fs : Fns g.md R fD T P w K mg base k
  gc : ∀ x v, g.gl.lookup x = some (.c v) → ∃ u vv, mg x = some u ∧ RelV vv u ∧ ∀ rho st H, StRep R rho st H → RepV R rho H v vv
  gf : ∀ x j, g.gl.lookup x = some (.f j) → mg x = some (.ref (R.fA j)) ∧ PySem.W.keepIn K (.ref (R.fA j)) = true
  gk : ∀ x c, g.gl.lookup x = some (.k c) → mg x = some (.ref (R.cA c))
  free : ∀ x, g.free.contains x = true → mg x = none
  isi : IsiF R g.isa K
  isx : IsxF R g.xi K
  sm : SysM K
  xc : ∀ c ps ks, g.xcs.lookup c = some (ps, ks) → if ps.isEmpty then Xc0 R K c else XcOk R K P c ps ks
  ow : OwnS R g.ownB K
  cmo : ∀ c i j, g.cm c i = some j → CmOk K (R.cA c) (g.mN i) (R.fA j)
  ini : ∀ c j, g.ini c = some j → Mk K (R.cA c) (R.fA j)
  npr : ∀ c q, g.b.fl c q = false → g.b.pr c q = none
  hf : g.md = .cold → Fns .hot R fD g.ht P w K mg base 4 ∧ ∀ (j : Nat) fi, g.ht[j]? = some fi → ∀ (s : Shared) (us : List Value), K.In s.heap → us.length = fi.ps.length → BindsTo s (fD j) ⟨us, []⟩ (fi.ps.zip us)
  cto : ∀ j c, g.cat.lookup j = some c → ∃ name qual pa bd dV kV doc pm cdv cty oc an od osl, CatOk c R K mg (R.fA j) name qual pa bd dV kV doc pm cdv cty oc an od osl ∧ c.Text bd
  xho : ∀ cy k, g.hit cy k = true → PySem.W.exmOne K (.ref (R.cA k)) (.ref (R.cA cy)) = some true
  sgo : ∀ j ps dfl, g.sg.lookup j = some (ps, dfl) → ∃ fi, T[j]? = some fi ∧ fi.ps = ps ∧ dfl.all flatB = true ∧ ∀ ks n, allOk ps ks n dfl.length = true → ShapeOk K (fD j) ps n ks (selOf ps ks n dfl)
structure Cok (g : Gam) (R : RC) (fD : Nat → FuncData) (T : List FnI) (k : Nat) (s : Sc) (X : Cx) (W : WX) : Prop where
  hN : X.N = s.N
  nd : s.N.Nodup
  hsc : X.env.scope = s.sc
  kd : s.sc.kind = .function
  hst : ∀ x, s.sto x = true → X.fn x = true
  calm : g.hot = false → X.calm = true
  room : RoomG g.hot (6 * k + hb g.md + 3) X.A
  tk : Takesm g.md.nc X W
  po : PassesOwn (model X.prog X.w) X.A X.env X.xe
  G : Gok g R fD T k X.prog X.w X.K X.mg X.base
  lm : s.lam = true → ∃ cO tA, X.env.code = .ref cO ∧ LamX.TabB X.base X.mg cO tA ∧ (tA, X.env.qual ++ "<lambda>") ∈ R.tb ∧ (∀ p ∈ R.tb, p.1 = tA → p.2 = X.env.qual ++ "<lambda>") ∧ RoomG g.hot (6 * k + hb g.md + 5) X.A
  tr : s.tr = true → X.stack = X.env :: X.outer ∧ X.env.frame = some X.env.locals ∧ (∀ hd : Option Value, PassesOwnAt (model X.prog X.w) (X.A.mark hd) X.A X.env X.xe)
  gn : s.tr = true → g.md = .cold → Gok g.nar R fD g.nt 3 X.prog X.w X.K X.mg X.base
section
variable {g : Gam} {R : RC} {fD : Nat → FuncData} {T : List FnI} {k : Nat} {s : Sc} {X : Cx} {W : WX}
theorem Cok.u64 (C : Cok g R fD T k s X W) : X.A.units + 64 < cLine := by have := C.room.un; omega
theorem Cok.u65 (C : Cok g R fD T k s X W) : X.A.units + 65 < cLine := by have := C.room.un; omega
theorem Cok.u80 (C : Cok g R fD T k s X W) : X.A.units + 80 < cLine := by have := C.room.un; omega
theorem Cok.r2 (C : Cok g R fD T k s X W) : RoomG g.hot (6 * k + hb g.md) X.A := C.room.mono (Nat.le_add_right _ _)
theorem Cok.r3 (C : Cok g R fD T k s X W) : RoomG g.hot (6 * k + hb g.md + 2) X.A := C.room.mono (by omega)
theorem Cok.r1 (C : Cok g R fD T k s X W) : RoomG g.hot (6 * k + hb g.md + 1) X.A := C.room.mono (by omega)
theorem cold_of {g : Gam} (h : g.cold = true) : g.md = .cold := by
  unfold Gam.cold at h
  split at h
  · assumption
  · cases h
theorem Cok.K (C : Cok g R fD T k s X W) : X.K = R.K := C.G.lk.hK.symm
end
/-! ### shapes -/
theorem star_no {e : Expr} {es : List Expr} {env : Env} (h : isStar e = false) : starEach (e :: es) env = (false, eval e env) :: starEach es env := by
  cases e <;> first | rfl | exact Bool.noConfusion h
theorem star_any {env : Env} {pos : Pos} : ∀ {es : List Expr}, es.any isStar = false → (backTo pos (starEach es env)).any (·.1) = false
  | [], _ => rfl
  | e :: es, h => by
    simp only [List.any_cons, Bool.or_eq_false_iff] at h
    rw [star_no h.1]
    show (false || (backTo pos (starEach es env)).any (·.1)) = false
    rw [star_any h.2]
    rfl
theorem star_all {env : Env} {pos : Pos} : ∀ {es : List Expr}, es.any isStar = false → (backTo pos (starEach es env)).all (fun x => !x.1) = true
  | [], _ => rfl
  | e :: es, h => by
    simp only [List.any_cons, Bool.or_eq_false_iff] at h
    rw [star_no h.1]
    show (true && (backTo pos (starEach es env)).all (fun x => !x.1)) = true
    rw [star_all h.2]
    rfl
theorem base_no {e : Expr} {f : Str} {env : Env} {whole : Sem Value} (h : isSuper e = false) : attributeBase e f env whole = whole := by
  unfold attributeBase
  split
  · rename_i id p pos
    have hs : (id == ("super" : Str)) = false := h
    have : (id != "super") = true := by simp [bne, hs]
    simp only [this, Bool.true_or, if_true]
  · rfl
theorem true_no {e : Expr} {env : Env} (h : ownTest e = false) (whole : Sem Value) : isTrue e env whole = (do let v ← whole; standAt e.pos; holding [v] (truthy v)) := by
  cases e with
  | UnaryOp op a p => cases op <;> first | rfl | exact Bool.noConfusion h
  | BoolOp op a p => exact Bool.noConfusion h
  | IfExp a b c p => exact Bool.noConfusion h
  | Compare a b c p => exact Bool.noConfusion h
  | _ => rfl
theorem marks_no {op : CmpOp} {b : Expr} (h : isSet b = false) : behindInMarks op b = false := by
  cases b <;> first | rfl | exact Bool.noConfusion h
theorem sub_no {b : Expr} (h : isSlice b = false) : PlainIx b := fun o i => by
  cases b <;> first | rfl | exact Bool.noConfusion h
theorem fold_no {e : Expr} {env : Env} (h : isSet e = false) (x : Value) : foldedSetIterable e env x = pure x := by
  cases e <;> first | rfl | exact Bool.noConfusion h
theorem swap_no {e : Expr} {t : Option Expr} {l : Nat} {env : Env} (h : isComp e = false) : swapsWith e t l env = pure false := by
  cases e <;> first | rfl | exact Bool.noConfusion h
theorem swap_tup {e : Expr} {ts : List Expr} {q : Nat} {p : Pos} {l : Nat} {env : Env} : swapsWithSole [.Tuple ts q p] e l env = pure false := by
  cases e <;> rfl
theorem swap_sub {e o i : Expr} {p : Pos} {l : Nat} {env : Env} : swapsWithSole [.Subscript o i p] e l env = pure false := by
  cases e <;> rfl
theorem swap_sub2 {e o i : Expr} {p : Pos} {l : Nat} {env : Env} : swapsWith e (some (.Subscript o i p)) l env = pure false := by
  cases e <;> rfl
theorem swap_att {e o : Expr} {f : Str} {p : Pos} {l : Nat} {env : Env} : swapsWith e (some (.Attribute o f p)) l env = pure false := by
  cases e <;> rfl
theorem ixS_ok {x : Str} : ∀ {l : List Str} {i : Nat}, ixS x l = some i → l[i]? = some x
  | [], i, h => by cases h
  | y :: r, i, h => by
    simp only [ixS] at h
    split at h
    · rename_i e; cases h; simp [e]
    · obtain ⟨j, e1, e2⟩ := Option.map_eq_some_iff.mp h
      subst e2
      simpa using ixS_ok e1
theorem nameAt_ok {l : List Str} {t i : Nat} {x : Str} (h : ixS x l = some i) : nameAt l t i = x := by
  unfold nameAt
  rw [ixS_ok h]
  rfl
inductive All2 {α β : Type} (P : α → β → Prop) : List α → List β → Prop
  | nil : All2 P [] []
  | cons {a b as bs} : P a b → All2 P as bs → All2 P (a :: as) (b :: bs)
section
variable {g : Gam} {R : RC} {fD : Nat → FuncData} {T : List FnI} {k : Nat} {s : Sc} {X : Cx} {W : WX}
theorem Cok.slot (C : Cok g R fD T k s X W) {x : Str} {i : Nat} (h : slot s x = some i) : X.N[i]? = some x ∧ Vis X.env.scope x ∧ (x == ("__debug__" : Str)) = false ∧ (x == ("__classdict__" : Str)) = false := by
  unfold OL.slot at h
  rw [C.hN, C.hsc]
  split at h
  · rename_i e
    split at h
    · cases h
    · rename_i hn
      simp only [Bool.or_eq_true, not_or, Bool.not_eq_true] at hn
      exact ⟨ixS_ok h, .inl e, hn.1, hn.2⟩
  · rename_i e
    split at h
    · cases h
    · rename_i hn
      simp only [Bool.or_eq_true, not_or, Bool.not_eq_true] at hn
      exact ⟨ixS_ok h, .inr (.inl e), hn.1, hn.2⟩
  · rename_i e
    split at h
    · cases h
    · rename_i hn
      simp only [Bool.or_eq_true, not_or, Bool.not_eq_true] at hn
      exact ⟨ixS_ok h, .inr (.inr e), hn.1, hn.2⟩
  · cases h
theorem Cok.slotS (C : Cok g R fD T k s X W) {x : Str} {i : Nat} (h : slotS s x = some i) : X.N[i]? = some x ∧ Loc X.env.scope x ∧ (X.fn x = true ∨ X.env.scope.names.lookup x = some .local) := by
  unfold OL.slotS at h
  rw [C.hN, C.hsc]
  split at h
  · rename_i e
    exact ⟨ixS_ok h, .inl e, .inr e⟩
  · rename_i e
    split at h
    · rename_i hs
      exact ⟨ixS_ok h, .inr e, .inl (C.hst x hs)⟩
    · cases h
  · cases h
theorem Cok.glob (C : Cok g R fD T k s X W) {x : Str} (h : globN s x = true) : Gl X x ∧ (x == ("__debug__" : Str)) = false ∧ x ≠ "__name__" := by
  unfold globN at h
  simp only [Bool.and_eq_true, Bool.not_eq_true'] at h
  obtain ⟨⟨h1, h2⟩, h3⟩ := h
  refine ⟨?_, h2, by simpa using h3⟩
  unfold Gl Env.kindOf
  rw [C.hsc]
  split at h1
  · assumption
  · cases h1
theorem pg_slot (C : Cok g R fD T k s X W) {x : Str} {i : Nat} {pos : Pos} (h : OL.slotS s x = some i) : PG X (.Name x pos) (gName i) := by
  obtain ⟨h1, h2, h3⟩ := C.slotS h
  exact pg_name (by rw [C.hN]; exact C.nd) h1 h2 h3
end
end OL
set_option maxRecDepth 100000
set_option maxHeartbeats 0
/-! ## soundness of the translation: expressions -/
namespace OL
open PySem PySem.Spec
open PyProof.Rows L2
section
variable {g : Gam} {R : RC} {fD : Nat → FuncData} {T : List FnI} {k : Nat} {s : Sc} {X : Cx} {W : WX} {F : CallT}
theorem opB_ok (hK : X.K = R.K) {op : Operator} {o : Op2} (h : opB op = some o) : ∃ r, OpR X (binaryOp op) r ∧ Op2Snd R o r := by
  cases op <;> simp only [opB] at h <;> cases h
  · exact ⟨_, or_plus, by rw [hK]; exact snd_add⟩
  · exact ⟨_, op_sub, snd_sub⟩
  · exact ⟨_, or_mul, snd_mul⟩
  · exact ⟨_, op_mod, snd_mod⟩
  · exact ⟨_, op_pow, snd_pow⟩
  · exact ⟨_, op_fdiv, snd_fdiv⟩
theorem opBm_ok (hK : X.K = R.K) {mt : Bool} {op : Operator} {o : Op2} (h : opBm mt op = some o) : ∃ r, OpR X (binaryOp op) r ∧ Op2Snd R o r := by
  unfold opBm at h
  split at h
  · cases h
    exact ⟨_, or_plus, by rw [hK]; exact snd_addM⟩
  · exact opB_ok hK h
theorem opC_ok (hK : X.K = R.K) (hu1 : X.A.units + 65 < cLine) (op : CmpOp) : ∃ r, OpR X (compareOp op) r ∧ Op2Snd R (opC op) r := by
  have hu : X.A.units + 64 < cLine := by omega
  cases op
  · exact ⟨_, or_eq hu, by rw [hK]; exact snd_eq⟩
  · exact ⟨_, or_ne hu, by rw [hK]; exact snd_ne⟩
  · exact ⟨_, or_lt, snd_lt⟩
  · exact ⟨_, or_le, snd_le⟩
  · exact ⟨_, or_gt, snd_gt⟩
  · exact ⟨_, or_ge, snd_ge⟩
  · exact ⟨_, op_isN, snd_is⟩
  · exact ⟨_, op_notN, snd_isNot⟩
  · exact ⟨_, or_in hu1, by rw [hK]; exact snd_in⟩
  · exact ⟨_, or_notIn hu1, by rw [hK]; exact snd_notIn⟩
theorem te_test {m : D PV} {sg : L2.St} {H : Hp} {Q : Bool → Hp → Prop} (h : tB2 R F W (tBl m) sg H Q) : tE R F W m sg H (fun v H1 => ∃ b, v = .bl b ∧ Q b H1) := by
  obtain ⟨rho, st, env, hE, hS, gd⟩ := h
  refine ⟨rho, st, env, hE, hS, (Good.bnd gd).imp fun v H1 ⟨rho1, st1, x, M1, S1, r1, g1⟩ => ?_⟩
  cases x with
  | bl b =>
    simp only [RepV] at r1
    exact ⟨b, r1, g1 rho1 H1 b (Mono.refl _ _) S1 rfl⟩
  | _ => exact g1.elim
/-- argument lists -/
theorem pa_of {es : List Expr} {ms : List (D PV)} (h : All2 (fun e m => PE X e (tE R F W m) ∧ isStar e = false) es ms) : PA X es (tL R F W (dArgs ms)) ∧ es.any isStar = false := by
  induction h with
  | nil => exact ⟨PA.weak pa_nil fun sg H Q q => te_argsNil Q q, rfl⟩
  | cons h1 h2 ih => exact ⟨PA.weak (pa_cons h1.1 ih.1 (star_no h1.2)) fun sg H Q q => te_argsCons Q q, by simp only [List.any_cons, h1.2, ih.2]; rfl⟩
theorem pe_ands {pos : Pos} (hK : X.K = R.K) {es : List Expr} {ms : List (D PV)} (h : All2 (fun e m => PE X e (tE R F W m) ∧ isStar e = false) es ms) (hn : es.isEmpty = false) : PE X (.BoolOp .And es pos) (tE R F W (andL ms)) := by
  induction h with
  | nil => cases hn
  | cons h1 h2 ih =>
    cases h2 with
    | nil => exact pe_one h1.1
    | cons h3 h4 => exact PE.weak (pe_andT h1.1 (ih rfl)) fun sg H Q q => by rw [hK]; exact te_and q
theorem pe_ors {pos : Pos} (hK : X.K = R.K) {es : List Expr} {ms : List (D PV)} (h : All2 (fun e m => PE X e (tE R F W m) ∧ isStar e = false) es ms) (hn : es.isEmpty = false) : PE X (.BoolOp .Or es pos) (tE R F W (orL ms)) := by
  induction h with
  | nil => cases hn
  | cons h1 h2 ih =>
    cases h2 with
    | nil => exact pe_one h1.1
    | cons h3 h4 => exact PE.weak (pe_orT h1.1 (ih rfl)) fun sg H Q q => by rw [hK]; exact te_or q
theorem mN_ix (C : Cok g R fD T k s X W) {x : Str} {m : Nat} (h : ixS x g.mL = some m) : g.mN m = x := by
  unfold Gam.mN nameAt
  rw [ixS_ok h]
  rfl
theorem cmpG_ok (C : Cok g R fD T k s X W) {op : CmpOp} {o : CallT → Op2} (h : cmpG g op = some o) : ∃ r, OpR X (compareOp op) r ∧ Op2Snd R (o (callK T k)) r := by
  cases op <;> simp only [cmpG] at h <;> try cases h
  · obtain ⟨m, e1, e2⟩ := Option.map_eq_some_iff.mp h
    subst e2
    exact ⟨_, op_cmpE C.K C.G.lk C.G.fs C.r1 C.G.ow (mN_ix C e1), snd_cmp⟩
  · obtain ⟨m, e1, e2⟩ := Option.map_eq_some_iff.mp h
    subst e2
    exact ⟨_, op_cmpN C.K C.G.lk C.G.fs C.r1 C.G.ow (mN_ix C e1), snd_cmp⟩
theorem pw_ands {pos : Pos} {es : List Expr} {ms : List (D Bool)} (h : All2 (fun e m => PT X e (tB2 R F W m)) es ms) (hn : es.isEmpty = false) : PW X (.BoolOp .And es pos) (tB2 R F W (andT ms)) := by
  induction h with
  | nil => cases hn
  | cons h1 h2 ih =>
    cases h2 with
    | nil => exact pw_and1 h1
    | cons h3 h4 => exact PW.weak (pw_and h1 (ih rfl)) fun sg H Q q => tt_and q
theorem pw_ors {pos : Pos} {es : List Expr} {ms : List (D Bool)} (h : All2 (fun e m => PT X e (tB2 R F W m)) es ms) (hn : es.isEmpty = false) : PW X (.BoolOp .Or es pos) (tB2 R F W (orT ms)) := by
  induction h with
  | nil => cases hn
  | cons h1 h2 ih =>
    cases h2 with
    | nil => exact pw_or1 h1
    | cons h3 h4 => exact PW.weak (pw_or h1 (ih rfl)) fun sg H Q q => tt_or q
/-! ### names -/
theorem pe_ty (C : Cok g R fD T k s X W) {x : Str} {m : Nat} {pos : Pos} (hg : globN s x = true) (hf : g.free.contains x = true) (ht : tyCode x = some m) : PE X (.Name x pos) (tE R F W (dK (.ty m))) := by
  obtain ⟨h1, h2, h3⟩ := C.glob hg
  have hm := C.G.free x hf
  have key : bootBuiltins x = some (.type (tyN m)) := by
    unfold tyCode at ht
    repeat' split at ht
    all_goals first | cases ht | skip
    all_goals (rename_i e; subst e; rfl)
  refine PE.weak (pe_bltn (v := V.ty (tyN m)) h1 hm key rfl h3 h2) fun sg H Q q => te_K (fun rho st H S => ?_) q
  simp only [RepV]
end
end OL
set_option maxRecDepth 100000
set_option maxHeartbeats 0
/-! ## soundness of the translation: built-in calls, methods, comprehensions -/
namespace OL
open PySem PySem.Spec
open PyProof.Rows L2
section
variable {g : Gam} {R : RC} {fD : Nat → FuncData} {T : List FnI} {k : Nat} {s : Sc} {X : Cx} {W : WX} {F : CallT}
theorem pe_bltF {x : Str} {id : String} {o : OpN} {r : List V → Hp → VK → Prop} {e : Expr} {es : List Expr} {as : List (D PV)} {p pos : Pos} (C : Cok g R fD T k s X W) (hg : globN s x = true) (hf : g.free.contains x = true) (hv : bootBuiltins x = some (.builtin id)) (hc : CallR X (.builtin id) r) (hs : OpNSnd R o r)
    (ha : PA X (e :: es) (tL R F W (dArgs as))) (hst : (e :: es).any isStar = false) : PE X (.Call (.Name x p) (e :: es) [] pos) (tE R F W (dN o as)) := by
  obtain ⟨h1, h2, h3⟩ := C.glob hg
  simp only [List.any_cons, Bool.or_eq_false_iff] at hst
  exact PE.weak (pe_callB hc h1 (C.G.free x hf) hv ha h3 h2 (star_no hst.1) (star_any hst.2)) fun sg H Q q => te_dN hs q
theorem pe_bltT {x : Str} {id : String} {o : OpN} {r : List V → Hp → VK → Prop} {e : Expr} {es : List Expr} {as : List (D PV)} {p pos : Pos} (C : Cok g R fD T k s X W) (hg : globN s x = true) (hf : g.free.contains x = true) (hv : bootBuiltins x = some (.type id)) (hc : CallR X (.type id) r) (hs : OpNSnd R o r)
    (ha : PA X (e :: es) (tL R F W (dArgs as))) (hst : (e :: es).any isStar = false) : PE X (.Call (.Name x p) (e :: es) [] pos) (tE R F W (dN o as)) := by
  obtain ⟨h1, h2, h3⟩ := C.glob hg
  simp only [List.any_cons, Bool.or_eq_false_iff] at hst
  exact PE.weak (pe_callTy hc h1 (C.G.free x hf) hv ha h3 h2 (star_no hst.1) (star_any hst.2)) fun sg H Q q => te_dN hs q
theorem pe_blt {x : Str} {mt : Bool} {o : OpN} {e : Expr} {es : List Expr} {as : List (D PV)} {p pos : Pos} (C : Cok g R fD T k s X W) (hg : globN s x = true) (hf : g.free.contains x = true) (ho : bltO g.isa g.xi x mt = some o) (hw : (g.hot && walksB x) = false)
    (ha : PA X (e :: es) (tL R F W (dArgs as))) (hst : (e :: es).any isStar = false) : PE X (.Call (.Name x p) (e :: es) [] pos) (tE R F W (dN o as)) := by
  have hK := C.K
  unfold bltO at ho
  by_cases q : x = "len"
  · rw [if_pos q] at ho; subst q; cases ho; exact pe_bltF C hg hf rfl call_len (by rw [hK]; exact snd_len) ha hst
  rw [if_neg q] at ho
  clear q
  by_cases q : x = "int"
  · rw [if_pos q] at ho; subst q; cases ho; exact pe_bltT C hg hf rfl call_intT snd_int ha hst
  rw [if_neg q] at ho
  clear q
  by_cases q : x = "abs"
  · rw [if_pos q] at ho; subst q; cases ho; exact pe_bltF C hg hf rfl call_abs snd_abs ha hst
  rw [if_neg q] at ho
  clear q
  by_cases q : x = "max"
  · rw [if_pos q] at ho; subst q; cases ho
    have hw : g.hot = false := by simpa [walksB] using hw
    exact pe_bltF C hg hf rfl (call_max2 (C.calm hw)) snd_max ha hst
  rw [if_neg q] at ho
  clear q
  by_cases q : x = "min"
  · rw [if_pos q] at ho; subst q; cases ho
    have hw : g.hot = false := by simpa [walksB] using hw
    exact pe_bltF C hg hf rfl (call_min2 (C.calm hw)) snd_min ha hst
  rw [if_neg q] at ho
  clear q
  by_cases q : x = "divmod"
  · rw [if_pos q] at ho; subst q; cases ho; exact pe_bltF C hg hf rfl call_divmod snd_divmod ha hst
  rw [if_neg q] at ho
  clear q
  by_cases q : x = "str"
  · rw [if_pos q] at ho; subst q; cases ho; exact pe_bltT C hg hf rfl or_str snd_str ha hst
  rw [if_neg q] at ho
  clear q
  by_cases q : x = "repr"
  · rw [if_pos q] at ho; subst q; cases ho; exact pe_bltF C hg hf rfl (call_reprD C.G.sm C.room.g C.u80) (by rw [hK]; exact snd_repr) ha hst
  rw [if_neg q] at ho
  clear q
  by_cases q : x = "all"
  · rw [if_pos q] at ho; subst q; cases ho
    have hw : g.hot = false := by simpa [walksB] using hw
    exact pe_bltF C hg hf rfl (cr_all (C.calm hw)) (by rw [hK]; exact snd_all) ha hst
  rw [if_neg q] at ho
  clear q
  by_cases q : x = "any"
  · rw [if_pos q] at ho; subst q; cases ho
    have hw : g.hot = false := by simpa [walksB] using hw
    exact pe_bltF C hg hf rfl (cr_any (C.calm hw)) (by rw [hK]; exact snd_any) ha hst
  rw [if_neg q] at ho
  clear q
  by_cases q : x = "sum"
  · rw [if_pos q] at ho; subst q; cases ho
    have hw : g.hot = false := by simpa [walksB] using hw
    exact pe_bltF C hg hf rfl (cr_sum (C.calm hw)) (by rw [hK]; exact snd_sum) ha hst
  rw [if_neg q] at ho
  clear q
  by_cases q : x = "list"
  · rw [if_pos q] at ho; subst q; cases ho; exact pe_bltT C hg hf rfl call_list_of (by rw [hK]; exact snd_list) ha hst
  rw [if_neg q] at ho
  clear q
  by_cases q : x = "tuple"
  · rw [if_pos q] at ho; subst q; cases ho; exact pe_bltT C hg hf rfl call_tuple_of (by rw [hK]; exact snd_tuple) ha hst
  rw [if_neg q] at ho
  clear q
  by_cases q : x = "isinstance"
  · rw [if_pos q] at ho; subst q; cases ho; exact pe_bltF C hg hf rfl or_isi (by rw [hK]; exact snd_isi (by have := C.G.isi; rw [hK] at this; exact this) (by have := C.G.isx; rw [hK] at this; exact this)) ha hst
  rw [if_neg q] at ho
  clear q
  cases ho
/-! ### methods -/
theorem len_of {α β : Type} {P : α → β → Prop} {as : List α} {bs : List β} (h : All2 P as bs) : as.length = bs.length := by
  induction h with
  | nil => rfl
  | cons _ _ ih => simp [ih]
theorem meth_form {env : Env} {pos : Pos} {es : List Expr} (hst : es.any isStar = false) (hl : es.length < 29) : methodCallForm (es.length + ([] : List Keyword).length) (backTo pos (starEach es env)) (backToKw pos (keywordEach [] env)) = true := by
  unfold methodCallForm
  rw [star_all hst]
  show (true && true && decide (es.length + 0 + 0 < 30)) = true
  simp
  omega
theorem meth_ht {o : Expr} {m : Str} {es : List Expr} {apos pos : Pos} {env : Env} (hs : isSuper o = false) (hl : (apos.endLine == pos.line) = true) (hst : es.any isStar = false) (hn : es.length < 29) : eval (.Call (.Attribute o m apos) es [] pos) env = (do
      let ov ← eval o env
      standAt apos.atName
      let (f, first) ← holding [ov] (getMethod ov m (plainOf o env))
      callWith pos f first (backTo pos (starEach es env)) (backToKw pos (keywordEach [] env))) := by
  rw [arm_eval_Call, base_no hs]
  simp only [mcall_line (meth_form hst hn) hl]
theorem pe_meth {m : Nat} {o : Expr} {es : List Expr} {apos pos : Pos} {mo : D PV} {as : List (D PV)} (C : Cok g R fD T k s X W) (ho : PE X o (tE R (callK T k) W mo)) (hE : All2 (fun e m => PE X e (tE R (callK T k) W m) ∧ isStar e = false) es as)
    (hs : isSuper o = false) (hl : (apos.endLine == pos.line) = true) (hn : es.length < 29) : PE X (.Call (.Attribute o (g.mN m) apos) es [] pos) (tE R (callK T k) W (dMeth g.b m mo as)) := by
  obtain ⟨ha, hst⟩ := pa_of hE
  have ht := meth_ht (m := g.mN m) (env := X.env) hs hl hst hn
  cases hE with
  | nil => exact pe_methG0 C.G.lk C.G.fs C.r2 C.tk ho ht
  | cons h1 h2 =>
    simp only [List.any_cons, Bool.or_eq_false_iff] at hst
    exact pe_methG C.G.lk C.G.fs C.r2 C.tk ho ha (star_no hst.1) (star_any hst.2) ht
theorem meth_formK {env : Env} {pos : Pos} {es : List Expr} {kws : List Keyword} (hst : es.any isStar = false) (hk : kwOk kws = true) (hl : es.length + kws.length < 29) : methodCallForm (es.length + kws.length) (backTo pos (starEach es env)) (backToKw pos (keywordEach kws env)) = true := by
  unfold methodCallForm
  rw [star_all hst, (kw_all (env := env) (pos := pos) hk).1]
  simp only [Bool.true_and, decide_eq_true_eq]
  split <;> omega
theorem meth_htK {o : Expr} {m : Str} {es : List Expr} {kws : List Keyword} {apos pos : Pos} {env : Env} (hs : isSuper o = false) (hl : (apos.endLine == pos.line) = true) (hst : es.any isStar = false) (hk : kwOk kws = true) (hn : es.length + kws.length < 29) : eval (.Call (.Attribute o m apos) es kws pos) env = (do
      let ov ← eval o env
      standAt apos.atName
      let (f, first) ← holding [ov] (getMethod ov m (plainOf o env))
      callWith pos f first (backTo pos (starEach es env)) (backToKw pos (keywordEach kws env))) := by
  rw [arm_eval_Call, base_no hs]
  simp only [mcall_line (meth_formK hst hk hn) hl]
theorem pe_methK {i : Nat} {o : Expr} {es : List Expr} {kws : List Keyword} {apos pos : Pos} {mo : D PV} {as bs : List (D PV)} (C : Cok g R fD T k s X W) (ho : PE X o (tE R (callK T k) W mo)) (hE : All2 (fun e m => PE X e (tE R (callK T k) W m) ∧ isStar e = false) es as) (hKw : AllK (fun e m => PE X e (tE R (callK T k) W m)) kws bs)
    (hs : isSuper o = false) (hl : (apos.endLine == pos.line) = true) (hk : kwOk kws = true) (hn : es.length + kws.length < 29) : PE X (.Call (.Attribute o (g.mN i) apos) es kws pos) (tE R (callK T k) W (dMethK g.b g.cm g.sgf i mo as bs (kwNames kws))) := by
  obtain ⟨ha, hst⟩ := pa_of hE
  obtain ⟨hb, hkl⟩ := pk_of hKw
  refine pe_methKG C.G.lk C.G.fs C.r2 C.tk (fun c j => C.G.cmo c i j) (fun j ps dfl e => C.G.sgo j ps dfl e) ho ha hb hk hkl (len_of hE) (fun e r q => ?_) (star_any hst) (meth_htK hs hl hst hk hn)
  subst q
  simp only [List.any_cons, Bool.or_eq_false_iff] at hst
  exact star_no hst.1
theorem pe_newL {i : Nat} {x : Str} {mt : Bool} {es : List Expr} {kws : List Keyword} {p pos : Pos} {as bs : List (D PV)} (C : Cok g R fD T k s X W) (hi : slot s x = some i) (hE : All2 (fun e m => PE X e (tE R (callK T k) W m) ∧ isStar e = false) es as) (hKw : AllK (fun e m => PE X e (tE R (callK T k) W m)) kws bs)
    (hk : kwOk kws = true) : PE X (.Call (.Name x p) es kws pos) (tE R (callK T k) W (dNewV mt g.ini g.sgf (dV i) as bs (kwNames kws))) := by
  obtain ⟨ha, hst⟩ := pa_of hE
  obtain ⟨hb, hkl⟩ := pk_of hKw
  obtain ⟨h1, h2, h3, h4⟩ := C.slot hi
  refine pe_newV C.G.lk C.G.fs C.r1 C.tk C.G.ini (fun j ps dfl e => C.G.sgo j ps dfl e) (PE.weak (pe_var h1 h2 h3 h4) fun sg H Q q => te_V q) ha hb hk hkl (len_of hE) (fun e r q => ?_) (star_any hst)
  subst q
  simp only [List.any_cons, Bool.or_eq_false_iff] at hst
  exact star_no hst.1
theorem pe_bltW {x : Str} {o : CallT → OpN} {e : Expr} {es : List Expr} {as : List (D PV)} {p pos : Pos} (C : Cok g R fD T k s X W) (hg : globN s x = true) (hf : g.free.contains x = true) (ho : bltG g x = some o)
    (ha : PA X (e :: es) (tL R (callK T k) W (dArgs as))) (hst : (e :: es).any isStar = false) : PE X (.Call (.Name x p) (e :: es) [] pos) (tE R (callK T k) W (dN (o (callK T k)) as)) := by
  unfold bltG at ho
  by_cases q : x = "str"
  · rw [if_pos q] at ho
    subst q
    obtain ⟨m, e1, e2⟩ := Option.map_eq_some_iff.mp ho
    subst e2
    exact pe_bltT C hg hf rfl (call_strO C.G.lk C.G.fs C.r3 C.G.ow (mN_ix C e1) or_str snd_str) snd_own ha hst
  rw [if_neg q] at ho
  clear q
  by_cases q : x = "repr"
  · rw [if_pos q] at ho
    subst q
    obtain ⟨m, e1, e2⟩ := Option.map_eq_some_iff.mp ho
    subst e2
    exact pe_bltF C hg hf rfl (call_reprO C.G.lk C.G.fs C.r1 C.G.ow (mN_ix C e1) (call_reprD C.G.sm C.room.g C.u80) (by rw [C.K]; exact snd_repr)) snd_own ha hst
  rw [if_neg q] at ho
  clear q
  by_cases q : x = "bool"
  · rw [if_pos q] at ho
    subst q
    cases ho
    exact pe_bltT C hg hf rfl (call_boolO C.G.ow) snd_bool ha hst
  rw [if_neg q] at ho
  cases ho
theorem pe_lm {id : String} {nm : Str} {op : Op2} {r : V → List V → Hp → VK → Prop} {o e : Expr} {apos pos : Pos} {mo me : D PV} (C : Cok g R fD T k s X W) (slot : Slot "list" nm id) (hty : typeOf (.builtin id) = pure (.type "method_descriptor")) (hm : MtR X id r) (hsnd : MtSnd R op r)
    (ho : PE X o (tE R F W mo)) (he : PE X e (tE R F W me)) (hs : isSuper o = false) (hst : isStar e = false) (hl : (apos.endLine == pos.line) = true) : PE X (.Call (.Attribute o nm apos) [e] [] pos) (tE R F W (dLM op mo me)) := by
  obtain ⟨ha, hst'⟩ := pa_of (.cons ⟨he, hst⟩ .nil : All2 (fun e m => PE X e (tE R F W m) ∧ isStar e = false) [e] [me])
  refine PE.weak (pe_bm PySem.F.plainAttrs_list slot hty hm ho ha (base_no hs) ?_ hl (star_no hst) rfl) fun sg H Q q => by rw [C.K]; exact te_LM hsnd q
  rw [star_all hst']
  rfl
theorem pe_sm {id : String} {nm : Str} {op : Op2} {r : V → List V → Hp → VK → Prop} {o e : Expr} {apos pos : Pos} {mo me : D PV} (slot : Slot "str" nm id) (hty : typeOf (.builtin id) = pure (.type "method_descriptor")) (hm : MtR X id r) (hsnd : MtSnd R op r)
    (ho : PE X o (tE R F W mo)) (he : PE X e (tE R F W me)) (hs : isSuper o = false) (hst : isStar e = false) (hl : (apos.endLine == pos.line) = true) : PE X (.Call (.Attribute o nm apos) [e] [] pos) (tE R F W (dSM op mo me)) :=
  PE.weak (pe_m1 slot hty hm ho he (star_no hst) (base_no hs) hl) fun sg H Q q => te_SM hsnd q
/-! ### calls of defs and classes -/
theorem pe_callD {j : Nat} {x : Str} {p pos : Pos} {es : List Expr} {as : List (D PV)} (C : Cok g R fD T k s X W) (hg : globN s x = true) (hx : g.gl.lookup x = some (.f j)) (hE : All2 (fun e m => PE X e (tE R (callK T k) W m) ∧ isStar e = false) es as) :
    PE X (.Call (.Name x p) es [] pos) (tE R (callK T k) W (dCall j as)) := by
  obtain ⟨h1, h2, h3⟩ := C.glob hg
  obtain ⟨h4, h5⟩ := C.G.gf x j hx
  obtain ⟨ha, hst⟩ := pa_of hE
  cases hE with
  | nil => exact pe_callG0 C.G.lk C.G.fs C.r2 C.tk h1 h4 h5 h2
  | cons q1 q2 =>
    simp only [List.any_cons, Bool.or_eq_false_iff] at hst
    exact pe_callG C.G.lk C.G.fs C.r2 C.tk h1 h4 h5 ha h2 (star_no hst.1) (star_any hst.2)
theorem pe_newD {c j : Nat} {mt : Bool} {x : Str} {p pos : Pos} {es : List Expr} {as : List (D PV)} (C : Cok g R fD T k s X W) (hg : globN s x = true) (hx : g.gl.lookup x = some (.k c)) (hi : g.ini c = some j) (hn : es.isEmpty = false) (hE : All2 (fun e m => PE X e (tE R (callK T k) W m) ∧ isStar e = false) es as) :
    PE X (.Call (.Name x p) es [] pos) (tE R (callK T k) W (dNew mt c j as)) := by
  obtain ⟨h1, h2, h3⟩ := C.glob hg
  obtain ⟨ha, hst⟩ := pa_of hE
  cases hE with
  | nil => cases hn
  | cons q1 q2 =>
    simp only [List.any_cons, Bool.or_eq_false_iff] at hst
    exact pe_newG C.G.lk C.G.fs C.r1 C.tk (C.G.ini c j hi) h1 (C.G.gk x c hx) ha h2 (star_no hst.1) (star_any hst.2)
/-! ### comprehensions -/
theorem Cok.blk {sh : Shared} {H : Hp} {Ca : Addr} {cl : List (Str × Addr)} {fp : List Addr} {scope : Scope} (C : Cok g R fD T k s X W) (hk : scope.kind = .function) : Cok g R fD T k (blkSc s scope) (X.blk sh H scope (compEnvC scope cl Ca X.env) fp) (fun _ _ _ _ => False) :=
  ⟨C.hN, C.nd, by show relS scope X.env.scope = relS scope s.sc; rw [C.hsc], hk, fun x h => h, C.calm, C.room, takesm0, PassesOwn.never, C.G, fun z => Bool.noConfusion (show false = true from z), fun z => Bool.noConfusion (show false = true from z), fun z => Bool.noConfusion (show false = true from z)⟩
theorem names_ok {N : List Str} {nd : N.Nodup} (C : Cok g R fD T k s X W) : ∀ {ts : List Expr} {is : List Nat}, namesOf s ts = some is → PGs X ts (hGs is) ∧ ts.any isStar = false ∧ (assignEach ts X.env).length = is.length ∧ (assignEach ts X.env).findIdx? (·.1) = none
  | [], is, h => by simp only [namesOf] at h; cases h; exact ⟨pgs_nil, rfl, rfl, rfl⟩
  | .Name x p :: r, is, h => by
    simp only [namesOf] at h
    split at h
    · rename_i i t e1 e2
      cases h
      obtain ⟨h1, h2, h3, h4⟩ := names_ok (nd := nd) C e2
      refine ⟨pgs_cons (pg_slot C e1) h1 rfl, by simp only [List.any_cons, h2]; rfl, ?_, ?_⟩
      · show (assignEach r X.env).length + 1 = _
        rw [h3]; rfl
      · show List.findIdx? (·.1) ((false, assign (.Name x p) X.env) :: assignEach r X.env) = none
        rw [List.findIdx?_cons]
        simp only [h4]
        rfl
    · cases h
theorem ctg_ok (C : Cok g R fD T k s X W) (hh : g.hot = false) {tg : Expr} {c : CTg} (h : ctgOf s tg = some c) : PG X tg (hG R.K c) := by
  unfold ctgOf at h
  split at h
  · obtain ⟨i, e1, e2⟩ := Option.map_eq_some_iff.mp h
    subst e2
    exact pg_slot C e1
  · obtain ⟨is, e1, e2⟩ := Option.map_eq_some_iff.mp h
    subst e2
    obtain ⟨h1, h2, h3, h4⟩ := names_ok (nd := C.nd) C e1
    show PG X _ (gTup R.K is.length (hGs is))
    rw [← C.K]
    exact pg_tup (C.calm hh) h1 h3 h4
  · cases h
end
end OL
set_option maxRecDepth 100000
set_option maxHeartbeats 0
/-! ## soundness of the translation: the induction -/
namespace OL
open PySem PySem.Spec
open PyProof.Rows L2
theorem ite_none {α : Type} {c : Bool} {x y : α} (h : (if c then none else some x) = some y) : c = false ∧ x = y := by
  cases c with
  | true => cases h
  | false => exact ⟨rfl, Option.some.inj h⟩
theorem ite_some {α : Type} {c : Bool} {x y : α} (h : (if c then some x else none) = some y) : c = true ∧ x = y := by
  cases c with
  | false => cases h
  | true => exact ⟨rfl, Option.some.inj h⟩
theorem ite_non {α : Type} {c : Bool} {x : Option α} {y : α} (h : (if c then none else x) = some y) : c = false ∧ x = some y := by
  cases c with
  | true => cases h
  | false => exact ⟨rfl, h⟩
theorem ite_som {α : Type} {c : Bool} {x : Option α} {y : α} (h : (if c then x else none) = some y) : c = true ∧ x = some y := by
  cases c with
  | false => cases h
  | true => exact ⟨rfl, h⟩
section
variable {g : Gam} {R : RC} {fD : Nat → FuncData} {T : List FnI} {k : Nat}
structure DenOk (g : Gam) (R : RC) (fD : Nat → FuncData) (T : List FnI) (k n : Nat) (s : Sc) (X : Cx) (W : WX) : Prop where
  e : ∀ e m, denE g n s e = some m → PE X e (tE R (callK T k) W m)
  es : ∀ es ms, denEs g n s es = some ms → All2 (fun e m => PE X e (tE R (callK T k) W m) ∧ isStar e = false) es ms
  ks : ∀ kws ms, denKs g n s kws = some ms → AllK (fun e m => PE X e (tE R (callK T k) W m)) kws ms
  o : ∀ o mo, denO g n s o = some mo → PO X o (tP R (callK T k) W (dPart mo))
  t : ∀ e m, denT g n s e = some m → PT X e (tB2 R (callK T k) W m)
  ts : ∀ es ms, denTs g n s es = some ms → All2 (fun e m => PT X e (tB2 R (callK T k) W m)) es ms
  i : ∀ e m tg, denI g n s tg e = some m → PI X tg e (tI R (callK T k) W m)
variable {s : Sc} {X : Cx} {W : WX} {n : Nat}
theorem den_es (C : Cok g R fD T k s X W) (ih : DenOk g R fD T k n s X W) (es : List Expr) (ms) (h : denEs g (n + 1) s es = some ms) : All2 (fun e m => PE X e (tE R (callK T k) W m) ∧ isStar e = false) es ms := by
  unfold denEs at h
  cases es with
  | nil => cases h; exact .nil
  | cons e r =>
    obtain ⟨m, h1, h⟩ := Option.bind_eq_some_iff.mp h
    obtain ⟨mr, h2, h⟩ := Option.bind_eq_some_iff.mp h
    obtain ⟨h3, h⟩ := ite_none h
    subst h
    exact .cons ⟨ih.e e m h1, h3⟩ (ih.es r mr h2)
theorem den_ks (C : Cok g R fD T k s X W) (ih : DenOk g R fD T k n s X W) (kws : List Keyword) (ms) (h : denKs g (n + 1) s kws = some ms) : AllK (fun e m => PE X e (tE R (callK T k) W m)) kws ms := by
  unfold denKs at h
  cases kws with
  | nil => cases h; exact .nil
  | cons e r =>
    obtain ⟨nm, e, p⟩ := e
    obtain ⟨m, h1, h⟩ := Option.bind_eq_some_iff.mp h
    obtain ⟨mr, h2, h⟩ := Option.bind_eq_some_iff.mp h
    cases h
    exact .cons (ih.e e m h1) (ih.ks r mr h2)
theorem den_ts (C : Cok g R fD T k s X W) (ih : DenOk g R fD T k n s X W) (es : List Expr) (ms) (h : denTs g (n + 1) s es = some ms) : All2 (fun e m => PT X e (tB2 R (callK T k) W m)) es ms := by
  unfold denTs at h
  cases es with
  | nil => cases h; exact .nil
  | cons e r =>
    obtain ⟨m, h1, h⟩ := Option.bind_eq_some_iff.mp h
    obtain ⟨mr, h2, h⟩ := Option.bind_eq_some_iff.mp h
    cases h
    exact .cons (ih.t e m h1) (ih.ts r mr h2)
theorem den_o (C : Cok g R fD T k s X W) (ih : DenOk g R fD T k n s X W) (o) (mo) (h : denO g (n + 1) s o = some mo) : PO X o (tP R (callK T k) W (dPart mo)) := by
  unfold denO at h
  cases o with
  | none => cases h; exact po_n
  | some e =>
    obtain ⟨m, h1, h2⟩ := Option.map_eq_some_iff.mp h
    subst h2
    exact po_s (ih.e e m h1)
theorem rng_ok {e : Expr} {args : List Expr} (C : Cok g R fD T k s X W) (h : rngOf g s e = some args) : ∃ p pos, e = .Call (.Name "range" p) args [] pos ∧ Gl X "range" ∧ X.mg "range" = none := by
  unfold rngOf at h
  split at h
  · rename_i x p args' pos
    obtain ⟨hc, h'⟩ := ite_some h
    simp only [Bool.and_eq_true, decide_eq_true_eq] at hc
    obtain ⟨⟨⟨c1, c2⟩, c3⟩, c4⟩ := hc
    subst c2
    subst h'
    exact ⟨p, pos, rfl, (C.glob c1).1, C.G.free _ c3⟩
  · cases h
theorem tup_is {tg : Expr} (h : isTup tg = true) : ∃ ts kk tp, tg = .Tuple ts kk tp := by
  unfold isTup at h
  split at h
  · exact ⟨_, _, _, rfl⟩
  · cases h
theorem enu_ok {tg e a : Expr} (C : Cok g R fD T k s X W) (h : itrOf g s tg e = some (.inl a)) : ∃ ts kk tp p pos, tg = .Tuple ts kk tp ∧ e = .Call (.Name "enumerate" p) [a] [] pos ∧ Gl X "enumerate" ∧ X.mg "enumerate" = none ∧ isStar a = false := by
  unfold itrOf at h
  split at h
  · rename_i x p a' pos
    obtain ⟨hc, h'⟩ := ite_some h
    cases h'
    simp only [Bool.and_eq_true, decide_eq_true_eq, Bool.not_eq_true'] at hc
    obtain ⟨⟨⟨⟨⟨c0, c1⟩, c2⟩, c3⟩, c4⟩, c5⟩ := hc
    subst c2
    obtain ⟨ts, kk, tp, rfl⟩ := tup_is c0
    exact ⟨ts, kk, tp, p, pos, rfl, rfl, (C.glob c1).1, C.G.free _ c3, c5⟩
  · obtain ⟨_, h'⟩ := ite_some h
    cases h'
  · cases h
theorem zip_ok {tg e a b : Expr} (C : Cok g R fD T k s X W) (h : itrOf g s tg e = some (.inr (a, b))) : ∃ ts kk tp p pos, tg = .Tuple ts kk tp ∧ e = .Call (.Name "zip" p) [a, b] [] pos ∧ Gl X "zip" ∧ X.mg "zip" = none ∧ isStar a = false ∧ isStar b = false := by
  unfold itrOf at h
  split at h
  · obtain ⟨_, h'⟩ := ite_some h
    cases h'
  · rename_i x p a' b' pos
    obtain ⟨hc, h'⟩ := ite_some h
    cases h'
    simp only [Bool.and_eq_true, decide_eq_true_eq, Bool.not_eq_true'] at hc
    obtain ⟨⟨⟨⟨⟨⟨c0, c1⟩, c2⟩, c3⟩, c4⟩, c5⟩, c6⟩ := hc
    subst c2
    obtain ⟨ts, kk, tp, rfl⟩ := tup_is c0
    exact ⟨ts, kk, tp, p, pos, rfl, rfl, (C.glob c1).1, C.G.free _ c3, c5, c6⟩
  · cases h
theorem den_i (C : Cok g R fD T k s X W) (ih : DenOk g R fD T k n s X W) (e) (m) (tg) (h : denI g (n + 1) s tg e = some m) : PI X tg e (tI R (callK T k) W m) := by
  unfold denI at h
  split at h
  · rename_i a hr
    obtain ⟨p, pos, rfl, hg, hm⟩ := rng_ok C hr
    obtain ⟨ma, h1, h⟩ := Option.bind_eq_some_iff.mp h
    obtain ⟨h2, h⟩ := ite_none h
    subst h
    obtain ⟨ha, hst⟩ := pa_of (.cons ⟨ih.e a ma h1, h2⟩ .nil : All2 (fun e m => PE X e (tE R (callK T k) W m) ∧ isStar e = false) [a] [ma])
    exact pi_rng1 hg hm ha (star_no h2)
  · rename_i a b hr
    obtain ⟨p, pos, rfl, hg, hm⟩ := rng_ok C hr
    obtain ⟨ma, h1, h⟩ := Option.bind_eq_some_iff.mp h
    obtain ⟨mb, h1', h⟩ := Option.bind_eq_some_iff.mp h
    obtain ⟨h2, h⟩ := ite_none h
    subst h
    simp only [Bool.or_eq_false_iff] at h2
    obtain ⟨ha, hst⟩ := pa_of (.cons ⟨ih.e a ma h1, h2.1⟩ (.cons ⟨ih.e b mb h1', h2.2⟩ .nil) : All2 (fun e m => PE X e (tE R (callK T k) W m) ∧ isStar e = false) [a, b] [ma, mb])
    exact pi_rng2 hg hm ha (by rw [star_no h2.1, star_no h2.2]; rfl) (star_no h2.2)
  · cases h
  · split at h
    · rename_i a hi
      obtain ⟨ma, h1, h2⟩ := Option.map_eq_some_iff.mp h
      subst h2
      obtain ⟨ts, kk, tp, p, pos, rfl, rfl, hg, hm, hst⟩ := enu_ok C hi
      obtain ⟨ha, hst'⟩ := pa_of (.cons ⟨ih.e a ma h1, hst⟩ .nil : All2 (fun e m => PE X e (tE R (callK T k) W m) ∧ isStar e = false) [a] [ma])
      exact pi_enumG C.K hg hm ha (star_no hst)
    · rename_i a b hi
      obtain ⟨ma, h1, h⟩ := Option.bind_eq_some_iff.mp h
      obtain ⟨mb, h1', h⟩ := Option.bind_eq_some_iff.mp h
      cases h
      obtain ⟨ts, kk, tp, p, pos, rfl, rfl, hg, hm, hst, hst2⟩ := zip_ok C hi
      obtain ⟨ha, hst'⟩ := pa_of (.cons ⟨ih.e a ma h1, hst⟩ (.cons ⟨ih.e b mb h1', hst2⟩ .nil) : All2 (fun e m => PE X e (tE R (callK T k) W m) ∧ isStar e = false) [a, b] [ma, mb])
      refine pi_zipG C.K hg hm ha (star_no hst) (star_any ?_)
      simp only [List.any_cons, List.any_nil, hst2, Bool.or_false]
    · obtain ⟨ma, h1, h2⟩ := Option.map_eq_some_iff.mp h
      subst h2
      exact pi_src C.K (ih.e _ ma h1)
theorem den_t (C : Cok g R fD T k s X W) (ih : DenOk g R fD T k n s X W) (e) (m) (h : denT g (n + 1) s e = some m) : PT X e (tB2 R (callK T k) W m) := by
  unfold denT at h
  split at h
  · contradiction
  · rename_i a p heq
    cases heq
    obtain ⟨ma, h1, h2⟩ := Option.map_eq_some_iff.mp h
    subst h2
    exact PT.weak (pt_not (ih.t a ma h1)) fun sg H Q q => tt_not q
  · rename_i es p heq
    cases heq
    obtain ⟨hn, h⟩ := ite_non h
    obtain ⟨ma, h1, h2⟩ := Option.map_eq_some_iff.mp h
    subst h2
    exact (pw_ands (ih.ts es ma h1) hn).pt
  · rename_i es p heq
    cases heq
    obtain ⟨hn, h⟩ := ite_non h
    obtain ⟨ma, h1, h2⟩ := Option.map_eq_some_iff.mp h
    subst h2
    exact (pw_ors (ih.ts es ma h1) hn).pt
  · rename_i a op b p heq
    cases heq
    obtain ⟨ma, h1, h⟩ := Option.bind_eq_some_iff.mp h
    obtain ⟨mb, h2, h⟩ := Option.bind_eq_some_iff.mp h
    obtain ⟨h3, h⟩ := ite_non h
    split at h
    · obtain ⟨o, e1, e2⟩ := Option.map_eq_some_iff.mp h
      subst e2
      obtain ⟨r, o1, o2⟩ := cmpG_ok C e1
      exact PT.weak (pt_cmpR o1 (ih.e a ma h1) (ih.e b mb h2) (marks_no h3)) fun sg H Q q => te_d2 o2 (te_test q)
    · cases h
      obtain ⟨r, o1, o2⟩ := opC_ok C.K C.u65 op
      exact PT.weak (pt_cmpR o1 (ih.e a ma h1) (ih.e b mb h2) (marks_no h3)) fun sg H Q q => te_d2 o2 (te_test q)
  · rename_i a op op' b c p heq
    cases heq
    obtain ⟨ma, h1, h⟩ := Option.bind_eq_some_iff.mp h
    obtain ⟨mb, h2, h⟩ := Option.bind_eq_some_iff.mp h
    obtain ⟨mc, h2', h⟩ := Option.bind_eq_some_iff.mp h
    obtain ⟨h3, h⟩ := ite_none h
    subst h
    simp only [Bool.or_eq_false_iff] at h3
    obtain ⟨r, o1, o2⟩ := opC_ok C.K C.u65 op
    obtain ⟨r', o3, o4⟩ := opC_ok C.K C.u65 op'
    exact PT.weak (pt_chain o1 o3 (ih.e a ma h1) (ih.e b mb h2) (ih.e c mc h2') (marks_no h3.2)) fun sg H Q q => te_chain o2 o4 (te_test q)
  · rename_i n' heq z1 z2 z3 z4 z5
    cases heq
    obtain ⟨h3, h⟩ := ite_non h
    obtain ⟨ma, h1, h2⟩ := Option.map_eq_some_iff.mp h
    subst h2
    exact pt_value C.K (ih.e _ ma h1) (true_no h3)
end
end OL
set_option maxRecDepth 100000
set_option maxHeartbeats 0
/-! ## soundness of the translation: expressions, the induction -/
namespace OL
open PySem PySem.Spec
open PyProof.Rows L2
section
variable {g : Gam} {R : RC} {fD : Nat → FuncData} {T : List FnI} {k : Nat} {s : Sc} {X : Cx} {W : WX} {n : Nat}
theorem kd_of {N : List Str} {sc scope : Scope} {own : List (Str × Nat)} (h : blkC N sc scope own = true) : scope.kind = .function := (blkOk_by h).kind
theorem pts_of {ifs : List Expr} {t : D Bool} {F : CallT} (h : match ifs with
      | [] => t = tYesT
      | [e] => PT X e (tB2 R F W t)
      | _ => False) : PTs X ifs (tB2 R F W t) := by
  match ifs, h with
  | [], h => subst h; exact ⟨fun pins s sg H Q I ⟨rho, st, env, hE, hS, gd⟩ => pts_nil.run pins s sg H Q I (gd rho H true (Mono.refl _ _) hS rfl)⟩
  | [e], h => exact pts_one h
theorem den_lc (C : Cok g R fD T k s X W) (hh : g.hot = false) (ih : ∀ (s : Sc) (X : Cx) (W : WX), Cok g R fD T k s X W → DenOk g R fD T k n s X W) {elt tg iter : Expr} {ifs : List Expr} {scope : Scope} {mt : Bool} {mi : D Src} {c : CTg} {t : D Bool} {m : D PV}
    (h1 : denI g n s tg iter = some mi) (h2 : ctgOf (blkSc s scope) tg = some c) (h3 : (match ifs with
      | [] => some tYesT
      | [e] => denT g n (blkSc s scope) e
      | _ => none) = some t) (h4 : denE g n (blkSc s scope) elt = some m)
    (hb : L2.blkC s.N s.sc scope (ownOf s.N scope) = true) :
    (PI X tg iter (tI R (callK T k) W mi)) ∧ BlkOk X.N X.env.scope scope (ownOf s.N scope) ∧
    (∀ (s : Shared) (H : Hp) (C : Addr) (cl : List (Str × Addr)) (fp : List Addr), PG (X.blk s H scope (compEnvC scope cl C X.env) fp) tg (hG R.K c)) ∧
    (∀ (s : Shared) (H : Hp) (C : Addr) (cl : List (Str × Addr)) (fp : List Addr), PTs (X.blk s H scope (compEnvC scope cl C X.env) fp) ifs (tB2 R (callK T k) (fun _ _ _ _ => False) t)) ∧
    (∀ (s : Shared) (H : Hp) (C : Addr) (cl : List (Str × Addr)) (fp : List Addr), PE (X.blk s H scope (compEnvC scope cl C X.env) fp) elt (tE R (callK T k) (fun _ _ _ _ => False) m)) := by
  have CB : ∀ (s' : Shared) (H : Hp) (Ca : Addr) (cl : List (Str × Addr)) (fp : List Addr), Cok g R fD T k (blkSc s scope) (X.blk s' H scope (compEnvC scope cl Ca X.env) fp) (fun _ _ _ _ => False) := fun s' H Ca cl fp => C.blk (kd_of hb)
  refine ⟨(ih s X W C).i iter mi tg h1, by rw [C.hN, C.hsc]; exact blkOk_by hb, fun s' H Ca cl fp => ctg_ok (CB s' H Ca cl fp) hh h2, fun s' H Ca cl fp => pts_of ?_, fun s' H Ca cl fp => (ih _ _ _ (CB s' H Ca cl fp)).e elt m h4⟩
  match ifs, h3 with
  | [], h3 => cases h3; rfl
  | [e], h3 => exact (ih _ _ _ (CB s' H Ca cl fp)).t e t h3
theorem own_in {own : List (Str × Nat)} {c : CTg} (h : (match c with
      | .nm i => (own.map (·.2)).contains i
      | .tp is => is.all fun i => (own.map (·.2)).contains i) = true) : ∀ i ∈ cIx c, i ∈ own.map (·.2) := by
  cases c with
  | nm i =>
    intro j hj
    simp only [cIx, List.mem_singleton] at hj
    subst hj
    exact List.contains_iff_mem.mp h
  | tp is =>
    intro j hj
    simp only [List.all_eq_true] at h
    exact List.contains_iff_mem.mp (h j hj)
theorem den_bm {o : Expr} {nm : Str} {args : List Expr} {ap p : Pos} {mo : D PV} {as : List (D PV)} {m : D PV} (C : Cok g R fD T k s X W) (hK : X.K = R.K) (ho : PE X o (tE R (callK T k) W mo)) (hE : All2 (fun e m => PE X e (tE R (callK T k) W m) ∧ isStar e = false) args as) (c1 : isSuper o = false) (c2 : (ap.endLine == p.line) = true)
    (h : bmO (isMut g p) nm mo as = some m) : PE X (.Call (.Attribute o nm ap) args [] p) (tE R (callK T k) W m) := by
  unfold bmO at h
  split at h
  · cases hE with
    | cons q1 q2 =>
      cases q2
      by_cases hm : nm = "append"
      · rw [if_pos hm] at h; subst hm; cases h
        exact pe_lm C PySem.F.slot_list_append PySem.F.type_list_append mt_append snd_append ho q1.1 c1 q1.2 c2
      rw [if_neg hm] at h
      clear hm
      by_cases hm : nm = "index"
      · rw [if_pos hm] at h; subst hm; cases h
        exact pe_lm C PySem.F.slot_list_index PySem.F.type_list_index mt_index (by rw [hK]; exact snd_index) ho q1.1 c1 q1.2 c2
      rw [if_neg hm] at h
      clear hm
      by_cases hm : nm = "count"
      · rw [if_pos hm] at h; subst hm; cases h
        exact pe_lm C PySem.F.slot_list_count PySem.F.type_list_count mt_count (by rw [hK]; exact snd_count) ho q1.1 c1 q1.2 c2
      rw [if_neg hm] at h
      clear hm
      by_cases hm : nm = "split"
      · rw [if_pos hm] at h; subst hm; cases h
        exact pe_sm PySem.F.slot_str_split PySem.F.type_str_split mt_split snd_split ho q1.1 c1 q1.2 c2
      rw [if_neg hm] at h
      clear hm
      by_cases hm : nm = "find"
      · rw [if_pos hm] at h; subst hm; cases h
        exact pe_sm PySem.F.slot_str_find PySem.F.type_str_find mt_find snd_find ho q1.1 c1 q1.2 c2
      rw [if_neg hm] at h
      clear hm
      by_cases hm : nm = "join"
      · rw [if_pos hm] at h; subst hm; cases h
        exact pe_sm PySem.F.slot_str_join PySem.F.type_str_join mt_join (by rw [hK]; exact snd_join) ho q1.1 c1 q1.2 c2
      rw [if_neg hm] at h
      cases h
  · cases hE with
    | cons q1 q2 =>
      cases q2 with
      | cons q3 q4 =>
        cases q4
        by_cases hm : nm = "get"
        · rw [if_pos hm] at h; subst hm; cases h
          obtain ⟨_, hst⟩ := pa_of (.cons q1 (.cons q3 .nil))
          refine pe_get2 (by have := C.u65; omega) ho q1.1 q3.1 ⟨base_no c1, ?_, c2, ?_⟩
          · rw [star_all hst]; rfl
          · rw [star_no q1.2, star_no q3.2]; rfl
        rw [if_neg hm] at h
        cases h
  · cases h
theorem pj_of {F : CallT} {es : List Expr} {ms : List (D PV)} (h : All2 (fun e m => PE X e (tE R F W m) ∧ isStar e = false) es ms) : PJ X es (ms.map (tE R F W)) := by
  induction h with
  | nil => exact .nil
  | cons h1 _ ih => exact .cons h1.1 ih
theorem all2_len {α β : Type} {P : α → β → Prop} {as : List α} {bs : List β} (h : All2 P as bs) : as.length = bs.length := by
  induction h with
  | nil => rfl
  | cons _ _ ih => simp [ih]
theorem den_call {x : Str} {p pos : Pos} {args : List Expr} {kws : List Keyword} {as bs : List (D PV)} {m : D PV} {mt ow : Bool} (C : Cok g R fD T k s X W) (hg : globN s x = true) (hE : All2 (fun e m => PE X e (tE R (callK T k) W m) ∧ isStar e = false) args as) (hKw : AllK (fun e m => PE X e (tE R (callK T k) W m)) kws bs)
    (h : callO g mt ow x as bs kws = some m) : PE X (.Call (.Name x p) args kws pos) (tE R (callK T k) W m) := by
  obtain ⟨g1, g2, g3⟩ := C.glob hg
  obtain ⟨ha, hst⟩ := pa_of hE
  obtain ⟨hk, hkl⟩ := pk_of hKw
  have hlen := all2_len hE
  have hs : ∀ e r, args = e :: r → starEach args X.env = (false, eval e X.env) :: starEach r X.env := fun e r q => by
    subst q
    simp only [List.any_cons, Bool.or_eq_false_iff] at hst
    exact star_no hst.1
  have emp : kws.isEmpty = true → kws = [] := List.isEmpty_iff.mp
  have aem : as.isEmpty = false → args.isEmpty = false := fun q => by
    cases args with
    | nil => cases as with
      | nil => cases q
      | cons _ _ => cases hlen
    | cons _ _ => rfl
  unfold callO at h
  split at h
  · rename_i j hv
    obtain ⟨h4, h5⟩ := C.G.gf x j hv
    split at h
    · obtain ⟨he, h⟩ := ite_some h
      subst h
      obtain rfl := emp he
      exact pe_callD C hg hv hE
    · rename_i ps dfl hsg
      split at h
      · rename_i hc
        simp only [Bool.and_eq_true] at hc
        cases h
        obtain rfl := emp hc.1
        exact pe_callD C hg hv hE
      · obtain ⟨hc, h⟩ := ite_some h
        subst h
        simp only [Bool.and_eq_true] at hc
        obtain ⟨fi, q1, q2, q3, q4⟩ := C.G.sgo j ps dfl hsg
        subst q2
        exact pe_callKG C.G.fs C.r2 C.tk g1 h4 h5 g2 q1 (q4 _ _ hc.2) (sel_flat q3) (by unfold selOf; simp) ha hk hc.1 hkl hlen hs (star_any hst)
  · rename_i c hv
    split at h
    · split at h
      · cases h
      · rename_i ps ks hx
        have xc := C.G.xc c ps ks hx
        split at h
        · rename_i hp
          rw [if_pos hp] at xc
          obtain ⟨he, h⟩ := ite_some h
          subst h
          simp only [Bool.and_eq_true] at he
          obtain rfl := emp he.1.1
          have hl := len_of hE
          have ea : as = [] := List.isEmpty_iff.mp he.1.2
          rw [ea] at hl
          obtain rfl := List.length_eq_zero_iff.mp hl
          exact pe_xnew0 xc g1 (C.G.gk x c hv) g2
        · rename_i hp
          rw [if_neg hp] at xc
          obtain ⟨hc, h⟩ := ite_som h
          obtain ⟨sel, e1, e2⟩ := Option.map_eq_some_iff.mp h
          subst e2
          simp only [Bool.and_eq_true, decide_eq_true_eq] at hc
          exact pe_xnewG xc (C.room.mono (by omega)) g1 (C.G.gk x c hv) g2 hc.1.2 e1 ha hk hc.1.1 hkl hlen hs (star_any hst) hc.2
    · rename_i j hi
      split at h
      · obtain ⟨he, h⟩ := ite_some h
        subst h
        simp only [Bool.and_eq_true, Bool.not_eq_true'] at he
        obtain rfl := emp he.1
        exact pe_newD C hg hv hi (aem he.2) hE
      · rename_i ps dfl hsg
        split at h
        · rename_i hc
          simp only [Bool.and_eq_true, Bool.not_eq_true'] at hc
          cases h
          obtain rfl := emp hc.1.1
          exact pe_newD C hg hv hi (aem hc.1.2) hE
        · obtain ⟨hc, h⟩ := ite_som h
          obtain ⟨sel, e1, e2⟩ := Option.map_eq_some_iff.mp h
          subst e2
          simp only [Bool.and_eq_true] at hc
          obtain ⟨fi, q1, q2, q3, q4⟩ := C.G.sgo j ps dfl hsg
          subst q2
          exact pe_newKG C.G.lk C.G.fs C.r1 C.tk (C.G.ini c j hi) g1 (C.G.gk x c hv) g2 q1 (q4 _ _ hc.2) q3 e1 ha hk hc.1 hkl hlen hs (star_any hst)
  · cases h
  · obtain ⟨hc, hz⟩ := ite_som h
    simp only [Bool.and_eq_true, Bool.not_eq_true'] at hc
    obtain rfl := emp hc.1.1
    have := aem hc.2
    by_cases hw : ow = true
    · rw [if_pos hw] at hz
      obtain ⟨o, h2, h3⟩ := Option.map_eq_some_iff.mp hz
      subst h3
      cases args with
      | nil => cases this
      | cons e es => exact pe_bltW C hg hc.1.2 h2 ha hst
    · rw [if_neg hw] at hz
      obtain ⟨hot, hz⟩ := ite_non hz
      obtain ⟨o, h2, h3⟩ := Option.map_eq_some_iff.mp hz
      subst h3
      cases args with
      | nil => cases this
      | cons e es => exact pe_blt C hg hc.1.2 h2 hot ha hst
theorem den_raise {x : Str} {p pos rp : Pos} {args : List Expr} {kws : List Keyword} {as bs : List (D PV)} {m : SD} (C : Cok g R fD T k s X W) (hh : g.hot = false) (hg : globN s x = true) (hE : All2 (fun e m => PE X e (tE R (callK T k) W m) ∧ isStar e = false) args as) (hKw : AllK (fun e m => PE X e (tE R (callK T k) W m)) kws bs)
    (h : raiseO g x as bs kws = some m) : PS X (.Raise (some (.Call (.Name x p) args kws pos)) none rp) (tS R (callK T k) W m) := by
  obtain ⟨g1, g2, g3⟩ := C.glob hg
  obtain ⟨ha, hst⟩ := pa_of hE
  obtain ⟨hk, hkl⟩ := pk_of hKw
  have hlen := all2_len hE
  have hs : ∀ e r, args = e :: r → starEach args X.env = (false, eval e X.env) :: starEach r X.env := fun e r q => by
    subst q
    simp only [List.any_cons, Bool.or_eq_false_iff] at hst
    exact star_no hst.1
  unfold raiseO at h
  split at h
  · rename_i c hv
    split at h
    · rename_i ps ks hx
      obtain ⟨hc, h⟩ := ite_som h
      obtain ⟨sel, e1, e2⟩ := Option.map_eq_some_iff.mp h
      subst e2
      simp only [Bool.and_eq_true, decide_eq_true_eq, Bool.not_eq_true'] at hc
      have xc := C.G.xc c ps ks hx
      rw [if_neg (by rw [hc.1.1.1]; exact Bool.false_ne_true)] at xc
      exact PS.weak (ps_raisem (C.calm hh) C.tk (mk_xraise (R := R) (W := W) (F := callK T k) xc (C.room.mono (by omega)) g1 (C.G.gk x c hv) g2 hc.1.2 e1 ha hk hc.1.1.2 hkl hlen hs (star_any hst) hc.2)) fun En sg H q => ts_raise q
    · cases h
  · cases h
theorem noArgs_ok {pa : Arguments} (h : noArgs pa = true) : pa = ⟨[], [], none, [], [], none, []⟩ := by
  unfold noArgs at h
  split at h
  · rfl
  · cases h
theorem den_lam {x : Str} {j : Nat} {c : Cat} {pa : Arguments} {body : Expr} {scope : Scope} {p lp pos : Pos} {me mr : D PV} (C : Cok g R fD T k s X W) (ih : ∀ (s : Sc) (X : Cx) (W : WX), Cok g R fD T k s X W → DenOk g R fD T k n s X W)
    (hc : (!g.cold || !s.lam || !globN s x || !LamX.lamSB s.sc scope || !noArgs pa) = false) (hj : g.gl.lookup x = some (.f j)) (hcat : g.cat.lookup j = some c) (he : denE g n ⟨s.N, scope, fun _ => false, false, false⟩ body = some me) (hr : denE g n ⟨c.N, c.sc, fun _ => true, false, false⟩ c.ret = some mr) :
    PE X (.Call (.Name x p) [.Lambda pa body scope lp] [] pos) (tE R (callK T k) W (dCaught c.hit g.ht c.jh c.N.length c.it me mr)) := by
  simp only [Bool.or_eq_false_iff, Bool.not_eq_false'] at hc
  obtain ⟨⟨⟨⟨h1, h2⟩, h3⟩, h4⟩, h5⟩ := hc
  have hm : g.md = .cold := cold_of h1
  have hh : g.hot = false := by unfold Gam.hot; rw [hm]; rfl
  have hbb : hb g.md = 20 := by rw [hm]; rfl
  have hnc : g.md.nc = false := by rw [hm]; rfl
  obtain ⟨g1, g2, g3⟩ := C.glob h3
  obtain ⟨cO, tA, l1, l2, l3, l4, l5⟩ := C.lm h2
  obtain ⟨name, qual, pg, bg, dV, kV, doc, pm, cdv, cty, oc, an, od, osl, CO, ct⟩ := C.G.cto j c hcat
  obtain ⟨hf1, hf2⟩ := C.G.hf hm
  have L : LamX.LamS X.env.scope scope := by rw [C.hsc]; exact LamX.lamS_by h4
  obtain rfl := noArgs_ok h5
  have l5' : RoomG false (6 * k + 23 + 2) X.A := by
    have z := l5
    rw [hh, hbb] at z
    exact z
  have tkm : ∀ {Y : Cx} {V : WX}, L2.Takes Y V → Takesm g.md.nc Y V := fun {Y V} t => by rw [hnc]; exact t
  have tk : L2.Takes X W := by
    have z := C.tk
    rw [hnc] at z
    exact z
  refine pe_caught (lv := 6 * k + 23) CO ct g1 (C.G.gf x j hj).1 g2 C.K.symm tk l2 l1 l3 l4 L rfl (fun _ _ _ _ _ => rfl) l5' (by omega) hf1 hf2 (fun s0 s1 H1 E gg c2 => ?_) (fun s0 H0 E => ?_)
  · refine (ih ⟨s.N, scope, fun _ => false, false, false⟩ (LamX.lamCx X (X.A.deeper (envOfC qual c.sc s0.heap.objs.size (R.fA j) cdv)) (envOfC qual c.sc s0.heap.objs.size (R.fA j) cdv :: X.stack) s1 H1 E scope gg c2) (fun cls d _ H' => E cls d H') ⟨C.hN, C.nd, rfl, L.kind, fun _ z => Bool.noConfusion (show false = true from z), fun _ => rfl, ?_, tkm (takes_of rfl rfl rfl rfl), passes_of (K := fun e s'' => L2.CX X.prog X.w (envOfC qual c.sc s0.heap.objs.size (R.fA j) cdv :: X.stack) H1 s1 E e s'') rfl, C.G, fun z => Bool.noConfusion (show false = true from z), fun z => Bool.noConfusion (show false = true from z), fun z => Bool.noConfusion (show false = true from z)⟩).e _ _ he
    rw [hh, hbb]
    exact ((l5'.deeper _).deeper _)
  · refine (ih ⟨c.N, c.sc, fun _ => true, false, false⟩ (cxIn X c.N qual c.sc (R.fA j) cdv s0 H0 E) (fun cls d _ H' => E cls d H') ⟨rfl, CO.S.nd, rfl, CO.S.kind, fun _ _ => rfl, fun _ => rfl, ?_, tkm (takes_of rfl rfl rfl rfl), passes_of (K := fun e s'' => L2.CX X.prog X.w X.stack H0 s0 E e s'') rfl, C.G, fun z => Bool.noConfusion (show false = true from z), fun z => Bool.noConfusion (show false = true from z), fun z => Bool.noConfusion (show false = true from z)⟩).e _ _ hr
    rw [hh, hbb]
    exact (l5'.deeper _).mono (by omega)
theorem den_e (C : Cok g R fD T k s X W) (ih : ∀ (s : Sc) (X : Cx) (W : WX), Cok g R fD T k s X W → DenOk g R fD T k n s X W) (e) (m) (h : denE g (n + 1) s e = some m) : PE X e (tE R (callK T k) W m) := by
  have I := ih s X W C
  have hK := C.K
  unfold denE at h
  split at h
  · contradiction
  · cases h; exact PE.weak pe_non fun sg H Q q => te_K (fun rho st H S => by simp only [RepV]) q
  · cases h; exact PE.weak pe_bl fun sg H Q q => te_K (fun rho st H S => by simp only [RepV]) q
  · cases h; exact PE.weak pe_int fun sg H Q q => te_K (fun rho st H S => by simp only [RepV]) q
  · cases h; exact PE.weak pe_str fun sg H Q q => te_K (fun rho st H S => by simp only [RepV]) q
  · -- a name
    rename_i x p heq
    cases heq
    split at h
    · rename_i i hi
      cases h
      obtain ⟨h1, h2, h3, h4⟩ := C.slot hi
      exact PE.weak (pe_var h1 h2 h3 h4) fun sg H Q q => te_V q
    · obtain ⟨hg, h⟩ := ite_som h
      obtain ⟨g1, g2, g3⟩ := C.glob hg
      split at h
      · rename_i v hv
        cases h
        obtain ⟨u, vv, k1, k2, k3⟩ := C.G.gc x v hv
        exact PE.weak (pe_glob g1 k1 k2 g2) fun sg H Q q => te_K k3 q
      · rename_i c hv
        cases h
        exact PE.weak (pe_glob (v := V.ref (R.cA c)) g1 (C.G.gk x c hv) rfl g2) fun sg H Q q => te_K (fun rho st H S => by simp only [RepV]) q
      · rename_i j hv
        cases h
        exact PE.weak (pe_glob (v := V.ref (R.fA j)) g1 (C.G.gf x j hv).1 rfl g2) fun sg H Q q => te_K (fun rho st H S => by simp only [RepV]) q
      · obtain ⟨hf, h⟩ := ite_som h
        obtain ⟨ma, h1, h2⟩ := Option.map_eq_some_iff.mp h
        subst h2
        exact pe_ty C hg hf h1
  · rename_i a op b p heq
    cases heq
    obtain ⟨o, h0, h⟩ := Option.bind_eq_some_iff.mp h
    obtain ⟨ma, h1, h⟩ := Option.bind_eq_some_iff.mp h
    obtain ⟨mb, h2, h⟩ := Option.bind_eq_some_iff.mp h
    cases h
    obtain ⟨r, o1, o2⟩ := opBm_ok hK h0
    exact PE.weak (pe_op o1 (I.e a ma h1) (I.e b mb h2)) fun sg H Q q => te_d2 o2 q
  · rename_i a p heq
    cases heq
    obtain ⟨ma, h1, h2⟩ := Option.map_eq_some_iff.mp h
    subst h2
    exact PE.weak (pe_un un_neg (I.e a ma h1)) fun sg H Q q => te_d1 snd_neg q
  · rename_i a p heq
    cases heq
    obtain ⟨ma, h1, h2⟩ := Option.map_eq_some_iff.mp h
    subst h2
    exact PE.weak (pe_notT (I.e a ma h1)) fun sg H Q q => by rw [hK]; exact te_not q
  · rename_i es p heq
    cases heq
    obtain ⟨hn, h⟩ := ite_non h
    obtain ⟨ma, h1, h2⟩ := Option.map_eq_some_iff.mp h
    subst h2
    exact pe_ands hK (I.es es ma h1) hn
  · rename_i es p heq
    cases heq
    obtain ⟨hn, h⟩ := ite_non h
    obtain ⟨ma, h1, h2⟩ := Option.map_eq_some_iff.mp h
    subst h2
    exact pe_ors hK (I.es es ma h1) hn
  · rename_i a op b p heq
    cases heq
    obtain ⟨ma, h1, h⟩ := Option.bind_eq_some_iff.mp h
    obtain ⟨mb, h2, h⟩ := Option.bind_eq_some_iff.mp h
    obtain ⟨h3, h⟩ := ite_non h
    split at h
    · obtain ⟨o, e1, e2⟩ := Option.map_eq_some_iff.mp h
      subst e2
      obtain ⟨r, o1, o2⟩ := cmpG_ok C e1
      exact PE.weak (pe_cmpR o1 (I.e a ma h1) (I.e b mb h2) (marks_no h3)) fun sg H Q q => te_d2 o2 q
    · cases h
      obtain ⟨r, o1, o2⟩ := opC_ok hK C.u65 op
      exact PE.weak (pe_cmpR o1 (I.e a ma h1) (I.e b mb h2) (marks_no h3)) fun sg H Q q => te_d2 o2 q
  · rename_i a op op' b c p heq
    cases heq
    obtain ⟨ma, h1, h⟩ := Option.bind_eq_some_iff.mp h
    obtain ⟨mb, h2, h⟩ := Option.bind_eq_some_iff.mp h
    obtain ⟨mc, h2', h⟩ := Option.bind_eq_some_iff.mp h
    obtain ⟨h3, h⟩ := ite_none h
    subst h
    simp only [Bool.or_eq_false_iff] at h3
    obtain ⟨r, o1, o2⟩ := opC_ok hK C.u65 op
    obtain ⟨r', o3, o4⟩ := opC_ok hK C.u65 op'
    exact PE.weak (pe_chain o1 o3 (I.e a ma h1) (I.e b mb h2) (I.e c mc h2') (marks_no h3.2)) fun sg H Q q => te_chain o2 o4 q
  · rename_i t a b p heq
    cases heq
    obtain ⟨mt, h0, h⟩ := Option.bind_eq_some_iff.mp h
    obtain ⟨ma, h1, h⟩ := Option.bind_eq_some_iff.mp h
    obtain ⟨mb, h2, h⟩ := Option.bind_eq_some_iff.mp h
    cases h
    exact PE.weak (pe_ifExp (I.t t mt h0) (I.e a ma h1) (I.e b mb h2)) fun sg H Q q => te_if q
  · rename_i es q p heq
    cases heq
    obtain ⟨ma, h1, h2⟩ := Option.map_eq_some_iff.mp h
    subst h2
    exact PE.weak (pe_tup (pa_of (I.es es ma h1)).1) fun sg H Q q => te_tup q
  · rename_i a b r p heq
    cases heq
    obtain ⟨ms, h1, h2⟩ := Option.map_eq_some_iff.mp h
    subst h2
    exact pe_joinG (pj_of (I.es _ ms h1))
  · rename_i e p heq
    cases heq
    obtain ⟨ma, h1, h2⟩ := Option.map_eq_some_iff.mp h
    subst h2
    exact pe_fmtG (I.e e ma h1)
  · split at h
    · cases h; exact pe_dictV0
    · cases h; exact pe_dict0
  · split at h
    · rename_i ks' xs e1 e2
      obtain ⟨hc, h⟩ := ite_som h
      simp only [Bool.and_eq_true, decide_eq_true_eq] at hc
      split at h
      · cases h; exact pe_dictV e1 e2 hc.1.1 (by simp) hc.1.2 hc.2
      · cases h; exact pe_dictC e1 e2 hc.1.1 (by simp) hc.1.2 hc.2
    · cases h
  · rename_i es p heq
    cases heq
    obtain ⟨ma, h1, h2⟩ := Option.map_eq_some_iff.mp h
    subst h2
    exact PE.weak (pe_lst (pa_of (I.es es ma h1)).1) fun sg H Q q => te_lst q
  · rename_i a lo hi p2 p heq
    cases heq
    obtain ⟨ma, h1, h⟩ := Option.bind_eq_some_iff.mp h
    obtain ⟨ml, h2, h⟩ := Option.bind_eq_some_iff.mp h
    obtain ⟨mh, h3, h⟩ := Option.bind_eq_some_iff.mp h
    cases h
    exact pe_cut hK (I.e a ma h1) (I.o lo ml h2) (I.o hi mh h3)
  · rename_i a i p z heq
    cases heq
    obtain ⟨ma, h1, h⟩ := Option.bind_eq_some_iff.mp h
    obtain ⟨mi, h2, h⟩ := Option.bind_eq_some_iff.mp h
    obtain ⟨h3, h⟩ := ite_none h
    subst h
    exact PE.weak (pe_ix ix_seq (I.e a ma h1) (I.e i mi h2) (sub_no h3)) fun sg H Q q => by rw [hK]; exact te_d2 snd_ix q
  · rename_i a f p heq
    cases heq
    obtain ⟨ma, h1, h⟩ := Option.bind_eq_some_iff.mp h
    obtain ⟨q, h2, h⟩ := Option.bind_eq_some_iff.mp h
    obtain ⟨h3, h⟩ := ite_none h
    subst h
    have hf : f = R.aN q := by rw [C.G.aN]; exact (nameAt_ok h2).symm
    subst hf
    exact pe_attrG C.G.lk (fun c hc => C.G.npr c q hc) (I.e a ma h1) (base_no h3)
  · rename_i elt tg iter ifs scope p heq
    cases heq
    obtain ⟨mi, h1, h⟩ := Option.bind_eq_some_iff.mp h
    obtain ⟨c, h2, h⟩ := Option.bind_eq_some_iff.mp h
    obtain ⟨t, h3, h⟩ := Option.bind_eq_some_iff.mp h
    obtain ⟨me, h4, h⟩ := Option.bind_eq_some_iff.mp h
    obtain ⟨hc, h⟩ := ite_some h
    subst h
    simp only [Bool.and_eq_true, Bool.not_eq_true'] at hc
    obtain ⟨⟨⟨c0, c1⟩, c2⟩, c3⟩ := hc
    obtain ⟨k1, k2, k3, k4, k5⟩ := den_lc (mt := isMut g p) C c0 ih h1 h2 h3 h4 c1
    exact PE.weak (pe_lc (C.calm c0) (by rw [C.hN]; exact C.nd) k1 k2 k3 k4 k5 (fold_no c2)) fun sg H Q q => tc_comp (own_in c3) q
  · rename_i x p pa body scope lp pos heq
    cases heq
    obtain ⟨hc, h⟩ := ite_non h
    split at h
    · rename_i j hj
      split at h
      · rename_i c hcat
        obtain ⟨me, h1, h⟩ := Option.bind_eq_some_iff.mp h
        obtain ⟨mr, h2, h⟩ := Option.bind_eq_some_iff.mp h
        cases h
        exact den_lam C ih hc hj hcat h1 h2
      · cases h
    · cases h
  · rename_i x p args kws pos _ heq
    cases heq
    obtain ⟨as, h1, h⟩ := Option.bind_eq_some_iff.mp h
    obtain ⟨bs, h2, h⟩ := Option.bind_eq_some_iff.mp h
    split at h
    · rename_i hg
      exact den_call C hg (I.es args as h1) (I.ks kws bs h2) h
    · split at h
      · rename_i i hi
        obtain ⟨hkw, h⟩ := ite_some h
        subst h
        exact pe_newL C hi (I.es args as h1) (I.ks kws bs h2) hkw
      · cases h
  · rename_i o m ap args kws p heq
    cases heq
    obtain ⟨mo, h1, h⟩ := Option.bind_eq_some_iff.mp h
    obtain ⟨as, h2, h⟩ := Option.bind_eq_some_iff.mp h
    obtain ⟨bs, h2', h⟩ := Option.bind_eq_some_iff.mp h
    obtain ⟨hc, h⟩ := ite_non h
    simp only [Bool.or_eq_false_iff, Bool.not_eq_false', decide_eq_true_eq] at hc
    obtain ⟨⟨c1, c2⟩, c3⟩ := hc
    have hE := I.es args as h2
    split at h
    · rename_i i hi
      have hm : m = g.mN i := (nameAt_ok hi).symm
      by_cases hz : (kws.isEmpty && !isMk g p) = true
      · rw [if_pos hz] at h
        cases h
        simp only [Bool.and_eq_true] at hz
        obtain rfl := List.isEmpty_iff.mp hz.1
        subst hm
        exact pe_meth C (I.e o mo h1) hE c1 c2 (by simpa using c3)
      · rw [if_neg hz] at h
        obtain ⟨hkw, h⟩ := ite_some h
        subst h
        subst hm
        exact pe_methK C (I.e o mo h1) hE (I.ks kws bs h2') c1 c2 hkw c3
    · obtain ⟨hz, h⟩ := ite_som h
      obtain rfl := List.isEmpty_iff.mp hz
      exact den_bm C hK (I.e o mo h1) hE c1 c2 h
  · cases h
theorem den_ok : ∀ (n : Nat) (s : Sc) (X : Cx) (W : WX), Cok g R fD T k s X W → DenOk g R fD T k n s X W
  | 0, s, X, W, C => ⟨fun e m h => (by unfold denE at h; cases h), fun e m h => (by unfold denEs at h; cases h), fun e m h => (by unfold denKs at h; cases h), fun e m h => (by unfold denO at h; cases h), fun e m h => (by unfold denT at h; cases h), fun e m h => (by unfold denTs at h; cases h), fun e m tg h => (by unfold denI at h; cases h)⟩
  | n + 1, s, X, W, C =>
    have ih := fun s X W C => den_ok n s X W C
    ⟨den_e C ih, den_es C (ih s X W C), den_ks C (ih s X W C), den_o C (ih s X W C), den_t C (ih s X W C), den_ts C (ih s X W C), den_i C (ih s X W C)⟩
end
end OL
set_option maxRecDepth 100000
set_option maxHeartbeats 0
/-! ## soundness of the translation: statements -/
namespace OL
open PySem PySem.Spec
open PyProof.Rows L2
section
variable {g : Gam} {R : RC} {fD : Nat → FuncData} {T : List FnI} {k : Nat} {s : Sc} {X : Cx} {W : WX} {n : Nat} {F : CallT}
theorem each_ok {env : Env} : ∀ {ts : List Expr}, ts.any isStar = false → (assignEach ts env).length = ts.length ∧ (assignEach ts env).findIdx? (·.1) = none
  | [], _ => ⟨rfl, rfl⟩
  | e :: r, h => by
    simp only [List.any_cons, Bool.or_eq_false_iff] at h
    obtain ⟨h1, h2⟩ := each_ok (env := env) h.2
    have e0 : assignEach (e :: r) env = (false, assign e env) :: assignEach r env := by
      cases e <;> first | rfl | exact Bool.noConfusion h.1
    rw [e0]
    refine ⟨by simp [h1], ?_⟩
    rw [List.findIdx?_cons]
    simp only [h2]
    rfl
theorem each_cons {env : Env} {e : Expr} {r : List Expr} (h : isStar e = false) : (assignEach (e :: r) env).map (·.2) = assign e env :: (assignEach r env).map (·.2) := by
  cases e <;> first | rfl | exact Bool.noConfusion h
/-- targets -/
theorem den_g (C : Cok g R fD T k s X W) : ∀ (n : Nat), (∀ e m, denG g n s e = some m → PG X e (tG R (callK T k) W m)) ∧ (∀ es ms, denGs g n s es = some ms → PGs X es (tGs R (callK T k) W ms) ∧ es.any isStar = false ∧ es.length = ms.length)
  | 0 => ⟨fun e m h => (by unfold denG at h; cases h), fun e m h => (by unfold denGs at h; cases h)⟩
  | n + 1 => by
    obtain ⟨ih1, ih2⟩ := den_g C n
    have I := den_ok n s X W C
    refine ⟨fun e m h => ?_, fun es ms h => ?_⟩
    · unfold denG at h
      split at h
      · contradiction
      · rename_i x p heq
        cases heq
        obtain ⟨i, h1, h2⟩ := Option.map_eq_some_iff.mp h
        subst h2
        exact PG.weak (pg_slot C h1) fun v sg H Q q => tg_nm q
      · rename_i ts q p heq
        cases heq
        obtain ⟨hh, h⟩ := ite_non h
        obtain ⟨gs, h1, h2⟩ := Option.map_eq_some_iff.mp h
        subst h2
        obtain ⟨k1, k2, k3⟩ := ih2 ts gs h1
        obtain ⟨k4, k5⟩ := each_ok (env := X.env) k2
        exact PG.weak (pg_seq (n := gs.length) (C.calm hh) k1 (by rw [k4, k3]) k5) fun v sg H Q q => by rw [C.K]; exact tg_tq q
      · rename_i o i p heq
        cases heq
        obtain ⟨mo, h1, h⟩ := Option.bind_eq_some_iff.mp h
        obtain ⟨mi, h2, h⟩ := Option.bind_eq_some_iff.mp h
        obtain ⟨h3, h⟩ := ite_none h
        subst h
        refine PG.weak (pg_sub (I.e o mo h1) (I.e i mi h2) set_list ?_) fun v sg H Q q => tg_sb q
        intro v
        cases i <;> first | rfl | exact Bool.noConfusion h3
      · cases h
    · unfold denGs at h
      cases es with
      | nil => cases h; exact ⟨PGs.weak pgs_nil fun vs sg H Q q => tg_nil q, rfl, rfl⟩
      | cons e r =>
        obtain ⟨m, h1, h⟩ := Option.bind_eq_some_iff.mp h
        obtain ⟨mr, h2, h⟩ := Option.bind_eq_some_iff.mp h
        obtain ⟨h3, h⟩ := ite_none h
        subst h
        obtain ⟨k1, k2, k3⟩ := ih2 r mr h2
        exact ⟨PGs.weak (pgs_cons (ih1 e m h1) k1 (each_cons h3)) fun vs sg H Q q => tg_cons q, by simp only [List.any_cons, h3, k2]; rfl, by simp [k3]⟩
/-! ### more readings -/
theorem ts_par3 {i j l : Nat} {a b c : D PV} {En : Ends} {sg : L2.St} {H : Hp} (h : tS R F W (sPar3 i j l a b c) En sg H) : tPar3 i j l (tL R F W (dArgs [a, b, c])) En sg H := by
  obtain ⟨rho, st, env, hE, hS, gd⟩ := h
  refine ⟨rho, st, env, hE, hS, ?_⟩
  show Good R (RepVs R) rho H ((a F env st).bnd fun x s1 => ((b F env s1).bnd fun y s2 => (((c F env s2).bnd fun z s3 => .ok [z] s3)).bnd fun r s3 => .ok (y :: r) s3).bnd fun r s3 => .ok (x :: r) s3) _ _
  unfold sPar3 at gd
  cases ea : a F env st with
  | bad => rw [ea] at gd; exact gd
  | exc e ks xs s1 => rw [ea] at gd; exact fun rho' H' cls d M S x => gd rho' H' sg cls d M S (hE.mono M) x
  | ok x s1 =>
    rw [ea] at gd
    simp only [Res.at] at gd
    simp only [Res.bnd]
    cases eb : b F env s1 with
    | bad => rw [eb] at gd; exact gd
    | exc e ks xs s2 => rw [eb] at gd; exact fun rho' H' cls d M S x => gd rho' H' sg cls d M S (hE.mono M) x
    | ok y s2 =>
      rw [eb] at gd
      simp only at gd
      simp only
      cases ec : c F env s2 with
      | bad => rw [ec] at gd; exact gd
      | exc e ks xs s3 => rw [ec] at gd; exact fun rho' H' cls d M S x => gd rho' H' sg cls d M S (hE.mono M) x
      | ok z s3 =>
        rw [ec] at gd
        refine fun rho' H' vs M S r => ?_
        simp only [RepVs] at r
        obtain ⟨v1, r1, e1, k1, v2, r2, e2, k2, v3, r3, e3, k3, e4⟩ := r
        subst e4; subst e3; subst e2; subst e1
        exact ⟨v1, v2, v3, rfl, gd rho' H' _ M S ((((hE.mono M).set i k1).set j k2).set l k3)⟩
abbrev rIPlus : V → V → Hp → VK → Prop := fun x y H Q => rI0 (fun i j => .int (i + j)) x y H Q ∨ (∃ i j, x = .str i ∧ y = .str j ∧ i.length + j.length ≤ sizeLine ∧ Q (.str (i ++ j)) H)
theorem or_iplus : PIp X .Add rIPlus := fun pins s σ H x y v u Q I rx ry h => (OpR.or iop_add iop_add_str : OpR X (inplaceOp .Add) rIPlus) pins s σ H x y v u Q I rx ry h
theorem snd_iadd : Op2Snd R oIAdd rIPlus := by
  intro rho st H x y v u Wx Q S rx ry gd
  unfold oIAdd at gd
  split at gd
  · simp only [RepV] at rx ry; subst rx; subst ry; exact .inl ⟨_, _, rfl, rfl, fin_i S gd⟩
  · split at gd
    · rename_i hz
      simp only [RepV] at rx ry; subst rx; subst ry
      exact .inr ⟨_, _, rfl, rfl, by rw [sizeLine_eq]; exact hz, fin_s S gd⟩
    · exact gd.elim
  · exact gd.elim
theorem snd_oInt : Op2Snd R oInt rAdd := by
  intro rho st H x y v u Wx Q S rx ry gd
  unfold oInt at gd
  split at gd
  · simp only [RepV] at rx ry; subst rx; subst ry; exact ⟨_, _, rfl, rfl, fin_i S gd⟩
  · exact gd.elim
theorem ts_aug {i : Nat} {o : Op2} {r : V → V → Hp → VK → Prop} {a : D PV} {En : Ends} {sg : L2.St} {H : Hp} (hs : Op2Snd R o r) (h : tS R F W (sAug i o a) En sg H) : tAug i (tE R F W a) r En sg H := by
  obtain ⟨rho, st, env, hE, hS, gd⟩ := h
  unfold sAug at gd
  unfold dV at gd
  cases ei : env[i]? with
  | none => rw [ei] at gd; exact gd.elim
  | some q =>
    cases q with
    | none => rw [ei] at gd; exact gd.elim
    | some x =>
      rw [ei] at gd
      simp only [Res.at] at gd
      have gd : GoodS R rho H ((a F env st).at env fun v s => (o x v s).at env fun z s1 => .ok (.nx (env.set i (some z))) s1) W En := gd
      obtain ⟨u, h1, h2⟩ := hE.at_ i x ei
      refine ⟨u, h1, rho, st, env, hE, hS, (GoodS.at hE gd).imp fun y H1 ⟨rho1, st1, y1, M1, S1, r1, g1⟩ => ?_⟩
      exact hs rho1 st1 H1 x y1 u y _ _ S1 (h2.mono M1) r1 ((GoodS.at (hE.mono M1) g1).imp fun z H2 ⟨rho2, st2, z1, M2, S2, r2, g2⟩ => g2 rho2 H2 _ (Mono.refl _ _) S2 (((hE.mono M1).mono M2).set i r2))
theorem ts_augA {b : Tb} {mN : Nat → Str} {q : Nat} {o a : D PV} {En : Ends} {sg : L2.St} {H : Hp} (lk : Lnk R b mN fD T X.K) (h : tS R F W (sAugA b o q oInt a) En sg H) : sFldAug X.K (tE R F W o) (tE R F W a) rAdd (R.aN q) En sg H := by
  obtain ⟨rho, st, env, hE, hS, gd⟩ := h
  refine ⟨rho, st, env, hE, hS, (GoodS.at hE gd).imp fun v H1 ⟨rho1, st1, x, M1, S1, r1, g1⟩ => ?_⟩
  have hE1 := hE.mono M1
  split at g1
  · rename_i c ec
    split at g1
    · rename_i hf
      obtain ⟨ad, dx, fs, u, e1, h1, h2, rho2, st2, ux, M2, S2, r2, g2⟩ := getA_get lk.inj S1 r1 ec (GoodS.at hE1 g1)
      have hE2 := hE1.mono M2
      refine ⟨ad, R.cA c, dx, fs, u, e1, h1, (lk.fld c q hf).2, (lk.fld c q hf).1, h2, rho2, st2, env, hE2, S2, (GoodS.at hE2 g2).imp fun y H2 ⟨rho3, st3, yx, M3, S3, r3, g3⟩ => ?_⟩
      have hE3 := hE2.mono M3
      refine snd_oInt rho3 st3 H2 ux yx u y _ _ S3 (r2.mono M3) r3 ((GoodS.at hE3 g3).imp fun z H3 ⟨rho4, st4, zx, M4, S4, r4, g4⟩ => ?_)
      have hE4 := hE3.mono M4
      have rx4 := ((r1.mono M2).mono M3).mono M4
      split at g4
      · rename_i ec4
        obtain ⟨a2, dx2, ks, vs, f1, f2, xs, f3, f4, f5⟩ := clsOf_ok S4 rx4 ec4
        rw [e1] at f1
        cases f1
        rcases f5 with rfl | ⟨m, rfl, en, ea⟩
        · exact g4.elim
        · simp only [oSetA, en] at g4
          split at g4
          · rename_i ks' xs' ep
            split at g4
            · rename_i hl
              obtain ⟨vs', k1, k2, k3⟩ := putA_ok lk.inj r4 f3 f4 ep
              have hz : ((ks.map R.aN).zip vs).length < 1000 := by
                rw [List.length_zip, List.length_map]
                omega
              refine ⟨dx2, _, f2, hz, ?_⟩
              rw [k1]
              have MW : Mono rho4 H3 rho4 (upd H3 ad (.ins (R.cA c) dx2 ((ks'.map R.aN).zip vs'))) := Mono.write S4 ea
              exact g4 rho4 _ sg MW (S4.write ea ⟨ad, dx2, vs', ea, upd_same, k3, k2.mono MW⟩) (hE4.mono MW)
            · exact g4.elim
          · exact g4.elim
      · exact g4.elim
    · exact g1.elim
  · exact g1.elim
theorem ts_try {a b : SD} {En : Ends} {sg : L2.St} {H : Hp} (h : tS R F W (sTry a b) En sg H) : tThru (tS R F (fun _ _ _ _ => False) a) (tS R F W b) En sg H := by
  obtain ⟨rho, st, env, hE, hS, gd⟩ := h
  refine ⟨rho, st, env, hE, hS, ?_⟩
  unfold sTry at gd
  cases e : a F env st with
  | bad => rw [e] at gd; exact gd
  | exc c ks xs s1 => rw [e] at gd; exact gd
  | ok fl s1 =>
    rw [e] at gd
    cases fl with
    | nx e1 => exact fun rho' H' sg' M S E' => ⟨rho', s1, e1, E', S, GoodS.shift M gd⟩
    | rt v => exact gd
    | bk e1 => exact gd
    | ct e1 => exact gd
    | ex c ks xs e1 => exact gd.elim
theorem ts_never {En : Ends} {sg : L2.St} {H : Hp} (h : tS R F W sNever En sg H) : tNever En sg H := by
  obtain ⟨rho, st, env, hE, hS, gd⟩ := h
  exact gd.elim
end
end OL
set_option maxRecDepth 100000
set_option maxHeartbeats 0
/-! ## soundness of the translation: blocks -/
namespace OL
open PySem PySem.Spec
open PyProof.Rows L2
section
variable {g : Gam} {R : RC} {fD : Nat → FuncData} {T : List FnI} {k : Nat} {s : Sc} {X : Cx} {W : WX} {n : Nat} {F : CallT}
theorem Cok.nox (C : Cok g R fD T k s X W) : Cok g R fD T k s X.nox (fun _ _ _ _ => False) := ⟨C.hN, C.nd, C.hsc, C.kd, C.hst, C.calm, C.room, takesm0, PassesOwn.never, C.G, C.lm, fun z => ⟨(C.tr z).1, (C.tr z).2.1, fun _ => PassesOwnAt.never⟩, C.gn⟩
theorem Cok.block (C : Cok g R fD T k s X W) : X.env.blockKind = .function := by
  unfold Env.blockKind
  rw [C.hsc, C.kd]
  rfl
theorem lc_inv {elt : Expr} {gens : List Comprehension} {scope : Scope} {p : Pos} {m : D PV} (h : denE g n s (.ListComp elt gens scope p) = some m) :
    ∃ n' tg iter ifs mi c t me, n = n' + 1 ∧ gens = [⟨tg, iter, ifs, 0⟩] ∧ denI g n' s tg iter = some mi ∧ ctgOf (blkSc s scope) tg = some c ∧ (match ifs with
      | [] => some tYesT
      | [e] => denT g n' (blkSc s scope) e
      | _ => none) = some t ∧ denE g n' (blkSc s scope) elt = some me ∧ (!g.hot && L2.blkC s.N s.sc scope (ownOf s.N scope) && !isSet iter && (match c with
      | .nm i => ((ownOf s.N scope).map (·.2)).contains i
      | .tp is => is.all fun i => ((ownOf s.N scope).map (·.2)).contains i)) = true ∧ m = dComp (isMut g p) mi ((ownOf s.N scope).map (·.2)) c t me := by
  cases n with
  | zero => unfold denE at h; cases h
  | succ n =>
    unfold denE at h
    split at h <;> first | contradiction | skip
    rename_i heq0 heq
    cases heq0
    cases heq
    obtain ⟨mi, h1, h⟩ := Option.bind_eq_some_iff.mp h
    obtain ⟨c, h2, h⟩ := Option.bind_eq_some_iff.mp h
    obtain ⟨t, h3, h⟩ := Option.bind_eq_some_iff.mp h
    obtain ⟨me, h4, h⟩ := Option.bind_eq_some_iff.mp h
    obtain ⟨hc, h⟩ := ite_some h
    exact ⟨n, _, _, _, mi, c, t, me, rfl, rfl, h1, h2, h3, h4, hc, h.symm⟩
theorem den_set (C : Cok g R fD T k s X W) {x : Str} {px p : Pos} {e : Expr} {i : Nat} {m : D PV} (hi : OL.slotS s x = some i) (he : denE g n s e = some m) (hc : (isComp e && !isLC e) = false) (hl : (isComp e && swC s x px e && !(s.sc.names.lookup x == some .local)) = false) :
    PS X (.Assign [.Name x px] e p) (tS R (callK T k) W (sAsg m (gNm i))) := by
  obtain ⟨h1, h2, h3⟩ := C.slotS hi
  have hN : X.N.Nodup := by rw [C.hN]; exact C.nd
  have fin : ∀ {En : Ends} {sg : L2.St} {H : Hp}, tS R (callK T k) W (sAsg m (gNm i)) En sg H → tAsg (tE R (callK T k) W m) (gName i) En sg H := fun {En sg H} q => by
    obtain ⟨rho, st, env, hE, hS, gd⟩ := ts_asg q
    refine ⟨rho, st, env, hE, hS, gd.imp fun v H1 q1 => tg_nm q1⟩
  by_cases hcm : isComp e = false
  · exact PS.weak (ps_set hN h1 h2 ((den_ok n s X W C).e e m he) (swap_no hcm) h3) fun En sg H q => fin q
  · rw [Bool.not_eq_false] at hcm
    rw [hcm, Bool.true_and] at hc
    cases e with
    | ListComp elt gens scope pos =>
      have ky : X.env.kindOf x = s.sc.names.lookup x := by unfold Env.kindOf; rw [C.hsc]
      have hsw : swapsWith (.ListComp elt gens scope pos) (some (.Name x px)) p.line X.env = pure (X.env.blockKind == .function && X.env.kindOf x == some .local && px.line == pos.line && !(scope.names.any fun (n, k) => n == x && (k == .local || k == .cell))) := rfl
      by_cases hw : swC s x px (.ListComp elt gens scope pos) = true
      · rw [hcm, hw] at hl
        simp only [Bool.true_and, Bool.not_eq_false'] at hl
        have hloc : s.sc.names.lookup x = some .local := by
          cases e : s.sc.names.lookup x with
          | none => rw [e] at hl; cases hl
          | some q => rw [e] at hl; cases q <;> first | rfl | cases hl
        obtain ⟨n', tg, iter, ifs, mi, c, t, me, rfl, rfl, k1, k2, k3, k4, k5, rfl⟩ := lc_inv he
        simp only [Bool.and_eq_true, Bool.not_eq_true'] at k5
        obtain ⟨⟨⟨c0, c1⟩, c2⟩, c3⟩ := k5
        obtain ⟨j1, j2, j3, j4, j5⟩ := den_lc (mt := isMut g pos) C c0 (fun s X W C => den_ok n' s X W C) k1 k2 k3 k4 c1
        have hsw2 : swapsWith (.ListComp elt [⟨tg, iter, ifs, 0⟩] scope pos) (some (.Name x px)) p.line X.env = pure true := by
          rw [hsw, C.block, ky]
          have hw : (((s.sc.names.lookup x == some .local) && (px.line == pos.line)) && !(scope.names.any fun (n, k) => n == x && (k == .local || k == .cell))) = true := hw
          have : (((ScopeKind.function == ScopeKind.function) && (s.sc.names.lookup x == some .local) && (px.line == pos.line)) && !(scope.names.any fun (n, k) => n == x && (k == .local || k == .cell))) = true := by
            rw [show (ScopeKind.function == ScopeKind.function) = true from rfl, Bool.true_and]; exact hw
          rw [this]
        refine PS.weak (ps_setLc (C.calm c0) hN h1 (by rw [C.hsc]; exact hloc) hsw2 j1 j2 j3 j4 j5 (fold_no c2)) fun En sg H q => ?_
        exact tc_comp (own_in c3) (fin q)
      · have hw : swC s x px (.ListComp elt gens scope pos) = false := by simpa using hw
        have hsw2 : swapsWith (.ListComp elt gens scope pos) (some (.Name x px)) p.line X.env = pure false := by
          rw [hsw, C.block, ky]
          have hw : (((s.sc.names.lookup x == some .local) && (px.line == pos.line)) && !(scope.names.any fun (n, k) => n == x && (k == .local || k == .cell))) = false := hw
          have : (((ScopeKind.function == ScopeKind.function) && (s.sc.names.lookup x == some .local) && (px.line == pos.line)) && !(scope.names.any fun (n, k) => n == x && (k == .local || k == .cell))) = false := by
            rw [show (ScopeKind.function == ScopeKind.function) = true from rfl, Bool.true_and]; exact hw
          rw [this]
        exact PS.weak (ps_set hN h1 h2 ((den_ok n s X W C).e _ m he) hsw2 h3) fun En sg H q => fin q
    | _ => exact Bool.noConfusion hc
/-! ### a, b = x, y -/
theorem sw_names {sc : Scope} {env : Env} {ts : List Expr} (hs : env.scope = sc) : (ts.filterMap fun
    | .Name id pos => if env.kindOf id == some .local && pos.line == (ts.head?.map (·.pos.line)).getD 0 then some id else none
    | _ => none) = swN sc ts := by
  unfold swN Env.kindOf
  rw [hs]
  all_goals rfl
theorem sw_stores {sc : Scope} {env : Env} {ts vs : List Expr} {q q2 : Nat} {p p2 : Pos} {r : Option (List Str)} (hs : env.scope = sc) (hb : env.blockKind = .function) (h : swP sc ts vs = some r) : swappedStores [.Tuple ts q p] (.Tuple vs q2 p2) env = pure r := by
  unfold swP at h
  unfold swappedStores
  simp only [hb]
  have star : (vs.any fun | .Starred .. => true | _ => false) = vs.any isStar := by
    congr 1
  split at h
  · rename_i c
    cases h
    rw [if_pos (by simp only [Bool.or_eq_true] at c ⊢; exact .inl c)]
  · rename_i c
    rw [if_neg (by simp only [Bool.or_eq_true] at c ⊢; rintro (z | z); exact c z; cases z)]
    split at h
    · rename_i c2
      cases h
      rw [if_pos (by exact c2)]
    · rename_i c2
      rw [if_neg (by exact c2)]
      have nm := sw_names (ts := ts) hs
      split at h
      · rename_i c3
        cases h
        rw [← nm] at c3
        rw [if_pos (by exact c3)]
      · rename_i c3
        rw [← nm] at c3
        rw [if_neg (by exact c3)]
        split at h
        · rename_i c4
          cases h
          rw [if_pos c4]
        · rename_i c4
          rw [if_neg c4]
          split at h
          · cases h
          · rename_i c5
            cases h
            rw [if_neg c5]
            rw [← nm]
            rfl
end
end OL
set_option maxRecDepth 100000
set_option maxHeartbeats 0
/-! ## soundness of the translation: statements, the induction -/
namespace OL
open PySem PySem.Spec
open PyProof.Rows L2
section
variable {g : Gam} {R : RC} {fD : Nat → FuncData} {T : List FnI} {k : Nat} {s : Sc} {X : Cx} {W : WX} {n : Nat} {F : CallT}
theorem stores_no {ts : List Expr} {q : Nat} {p : Pos} {e : Expr} {env : Env} (h : isTup e = false) : swappedStores [.Tuple ts q p] e env = pure none := by
  cases e <;> first | rfl | exact Bool.noConfusion h
theorem stores_sub {o i : Expr} {p : Pos} {e : Expr} {env : Env} : swappedStores [.Subscript o i p] e env = pure none := by
  cases e <;> rfl
theorem all2_2 {es : List Expr} {a b : D PV} {P : Expr → D PV → Prop} (h : All2 P es [a, b]) : ∃ x y, es = [x, y] ∧ P x a ∧ P y b := by
  cases h with
  | cons h1 h2 => cases h2 with
    | cons h3 h4 => cases h4; exact ⟨_, _, rfl, h1, h3⟩
theorem all2_3 {es : List Expr} {a b c : D PV} {P : Expr → D PV → Prop} (h : All2 P es [a, b, c]) : ∃ x y z, es = [x, y, z] ∧ P x a ∧ P y b ∧ P z c := by
  cases h with
  | cons h1 h2 => cases h2 with
    | cons h3 h4 => cases h4 with
      | cons h5 h6 => cases h6; exact ⟨_, _, _, rfl, h1, h3, h5⟩
theorem den_par (C : Cok g R fD T k s X W) (hh : g.hot = false) {ts vs : List Expr} {q q2 : Nat} {p p2 pos : Pos} {ms : List (D PV)} {m : SD} (hm : denEs g n s vs = some ms) (h : parO s ts vs ms (denGs g n s ts) = some m) : PS X (.Assign [.Tuple ts q p] (.Tuple vs q2 p2) pos) (tS R (callK T k) W m) := by
  have hE := (den_ok n s X W C).es vs ms hm
  have hN : X.N.Nodup := by rw [C.hN]; exact C.nd
  unfold parO at h
  split at h
  · rename_i e
    obtain ⟨gs, h1, h2⟩ := Option.map_eq_some_iff.mp h
    subst h2
    obtain ⟨k1, k2, k3⟩ := (den_g C n).2 ts gs h1
    obtain ⟨k4, k5⟩ := each_ok (env := X.env) k2
    exact PS.weak (ps_asg (PE.weak (pe_tup (pa_of hE).1) fun sg H Q q => te_tup q) (PG.weak (pg_tup (n := gs.length) (C.calm hh) k1 (by rw [k4, k3]) k5) fun v sg H Q q => by rw [C.K]; exact tg_tp q) swap_tup (sw_stores C.hsc C.block e) rfl) fun En sg H q => ts_asg q
  · rename_i x y e
    split at h
    · rename_i x' px y' py a b i j ei ej
      split at h
      · rename_i hc
        obtain ⟨c1, c2, c3, c4, c5⟩ := hc
        subst c1; subst c2
        cases h
        obtain ⟨e1, e2, rfl, q1, q2'⟩ := all2_2 hE
        exact PS.weak (ps_par (C.calm hh) hN (C.slotS ei).1 (C.slotS ej).1 c3 (by rw [C.hsc]; exact c4) (by rw [C.hsc]; exact c5) (pa_of hE).1 (sw_stores C.hsc C.block e) swap_tup) fun En sg H q => ts_par q
      · cases h
    · cases h
  · rename_i x y z e
    split at h
    · rename_i x' px y' py z' pz a b c i j l ei ej el
      split at h
      · rename_i hc
        obtain ⟨c1, c2, c0, c3, c6, c7, c4, c5, c8⟩ := hc
        subst c1; subst c2; subst c0
        cases h
        obtain ⟨e1, e2, e3, rfl, q1, q2', q3⟩ := all2_3 hE
        exact PS.weak (ps_par3 (C.calm hh) hN (C.slotS ei).1 (C.slotS ej).1 (C.slotS el).1 c3 c6 c7 (by rw [C.hsc]; exact c4) (by rw [C.hsc]; exact c5) (by rw [C.hsc]; exact c8) (pa_of hE).1 (sw_stores C.hsc C.block e) swap_tup) fun En sg H q => ts_par3 q
      · cases h
    · cases h
  · cases h
theorem den_tryX (C : Cok g R fD T k s X W) {t y x nm : Str} {pt pa q1 q2 q3 q4 q6 q7 q8 q9 : Pos} {q5 : Nat} {e : Expr} {m : SD} (h : tryX g n s t e y x nm = some m) :
    PS X (.Try [.Assign [.Name t pt] e pa] [.ExceptHandler (some (.Name y q1)) none [.Raise (some (.Call (.Name x q2) [.Name nm q3] [] q4)) (some (.Constant .none q5 q6)) q7] q8] [] [] q9) (tS R (callK T k) W m) := by
  unfold tryX at h
  obtain ⟨hc, h⟩ := ite_non h
  simp only [Bool.or_eq_false_iff, Bool.not_eq_false'] at hc
  obtain ⟨⟨⟨⟨h1, h2⟩, h3⟩, h4⟩, h5⟩ := hc
  have hm : g.md = .cold := cold_of h1
  have hh : g.hot = false := by unfold Gam.hot; rw [hm]; rfl
  have hbb : hb g.md = 20 := by rw [hm]; rfl
  have hnc : g.md.nc = false := by rw [hm]; rfl
  obtain ⟨r1, r2, r3⟩ := C.tr h2
  have GN := C.gn h2 hm
  split at h
  · rename_i cy c i it me e1 e2 e3 e4 e5
    split at h
    · rename_i ps ks hx
      obtain ⟨hz, h⟩ := ite_som h
      simp only [Bool.and_eq_true, Bool.not_eq_true'] at hz
      obtain ⟨sel, k1, k2⟩ := Option.map_eq_some_iff.mp h
      subst k2
      obtain ⟨g1, g2, g3⟩ := C.glob h3
      obtain ⟨f1, f2, f3⟩ := C.glob h4
      obtain ⟨v1, v2, v3, v4⟩ := C.slot e3
      obtain ⟨w1, w2, w3⟩ := C.slotS e4
      have xc := C.G.xc c ps ks hx
      rw [if_neg (by rw [hz.1]; exact Bool.false_ne_true)] at xc
      have tk : L2.Takes X W := by
        have z := C.tk
        rw [hnc] at z
        exact z
      refine ps_tryX (hot := g.hot) r1 r2 r3 tk ⟨g1, C.G.gk y cy e1, g2⟩ (fun k' hk => C.G.xho cy k' hk) xc (C.room.mono (by omega)) f1 (C.G.gk x c e2) f2 hz.2 k1 v1 v2 v3 v4 (fun W' pn xe tN po => ?_)
      have CN : Cok g.nar R fD g.nt 3 ⟨s.N, s.sc, s.sto, false, false⟩ (X.tr pn xe) W' := by
        refine ⟨C.hN, C.nd, C.hsc, C.kd, C.hst, fun _ => C.calm hh, ?_, tN, po, GN, fun z => Bool.noConfusion (show false = true from z), fun z => Bool.noConfusion (show false = true from z), fun z => Bool.noConfusion (show false = true from z)⟩
        have z := C.room
        rw [hh, hbb] at z
        exact z.mono (by show 6 * 3 + 0 + 3 ≤ _; omega)
      have hN : X.N.Nodup := by rw [C.hN]; exact C.nd
      refine pss_one (PS.weak (ps_set (X := X.tr pn xe) hN w1 w2 ((den_ok n _ _ _ CN).e e me e5) (swap_no h5) w3) fun En sg H q => ?_)
      obtain ⟨rho, st, env, hE, hS, gd⟩ := ts_asg q
      exact ⟨rho, st, env, hE, hS, gd.imp fun v H1 q1 => tg_nm q1⟩
    · cases h
  · cases h
theorem den_x (C : Cok g R fD T k s X W) (ih : ∀ (s : Sc) (X : Cx) (W : WX), Cok g R fD T k s X W → (∀ st m, denX g n s st = some m → PS X st (tS R (callK T k) W m)) ∧ (∀ sts, PSs X sts (tS R (callK T k) W (denB g n s sts))))
    (st : Stmt) (m : SD) (h : denX g (n + 1) s st = some m) : PS X st (tS R (callK T k) W m) := by
  have I := den_ok n s X W C
  have B := (ih s X W C).2
  have hN : X.N.Nodup := by rw [C.hN]; exact C.nd
  unfold denX at h
  split at h
  · contradiction
  · cases h; exact PS.weak ps_doc fun En sg H q => ts_nil q
  · rename_i n' e p heq z heq2
    cases heq2
    obtain ⟨hc, h⟩ := ite_non h
    obtain ⟨ma, h1, h2⟩ := Option.map_eq_some_iff.mp h
    subst h2
    cases heq
    exact PS.weak (ps_expr (I.e _ ma h1) (swap_no hc)) fun En sg H q => ts_ex q
  · cases h; exact PS.weak ps_pass fun En sg H q => ts_nil q
  · cases h; exact PS.weak ps_break fun En sg H q => ts_brk q
  · cases h; exact PS.weak ps_continue fun En sg H q => ts_cnt q
  · cases h; exact PS.weak ps_retN fun En sg H q => ts_retN q
  · rename_i e p heq
    cases heq
    obtain ⟨ma, h1, h2⟩ := Option.map_eq_some_iff.mp h
    subst h2
    refine PS.weak (ps_ret (PE.weak (I.e _ ma h1) fun sg H Q q => ?_)) fun En sg H q => ts_ret q
    unfold frzD at q
    split at q
    · exact te_frz q
    · exact q
  · rename_i c a b p heq
    cases heq
    obtain ⟨mc, h1, h⟩ := Option.bind_eq_some_iff.mp h
    cases h
    exact PS.weak (ps_if (I.t c mc h1) (B a) (B b)) fun En sg H q => ts_if q
  · rename_i c a p heq
    cases heq
    obtain ⟨mc, h1, h⟩ := Option.bind_eq_some_iff.mp h
    cases h
    exact PS.weak (ps_while C.po (I.t c mc h1) (B a)) fun En sg H q => ts_while q
  · rename_i tg it a p heq
    cases heq
    obtain ⟨mi, h1, h⟩ := Option.bind_eq_some_iff.mp h
    obtain ⟨mg, h2, h⟩ := Option.bind_eq_some_iff.mp h
    obtain ⟨h3, h⟩ := ite_none h
    subst h
    simp only [Bool.or_eq_false_iff] at h3
    exact PS.weak (ps_for C.po (C.calm h3.2) (I.i it mi tg h1) ((den_g C n).1 tg mg h2) (B a) (fold_no h3.1)) fun En sg H q => ts_for q
  · rename_i x px e p heq
    cases heq
    obtain ⟨i, h1, h⟩ := Option.bind_eq_some_iff.mp h
    obtain ⟨me, h2, h⟩ := Option.bind_eq_some_iff.mp h
    obtain ⟨h3, h⟩ := ite_non h
    obtain ⟨h4, h⟩ := ite_none h
    subst h
    exact den_set C h1 h2 h3 h4
  · rename_i o f p2 e p heq
    cases heq
    obtain ⟨mo, h1, h⟩ := Option.bind_eq_some_iff.mp h
    obtain ⟨me, h2, h⟩ := Option.bind_eq_some_iff.mp h
    obtain ⟨q, h3, h⟩ := Option.bind_eq_some_iff.mp h
    cases h
    have hf : f = R.aN q := by rw [C.G.aN]; exact (nameAt_ok h3).symm
    subst hf
    exact ps_attrG C.G.lk (I.e o mo h1) (I.e e me h2) swap_att
  · rename_i ts q p vs q2 p2 pos heq
    cases heq
    obtain ⟨ms, h1, h⟩ := Option.bind_eq_some_iff.mp h
    obtain ⟨hh, h⟩ := ite_non h
    exact den_par C hh h1 h
  · rename_i ts q p2 e p z heq
    cases heq
    obtain ⟨me, h1, h⟩ := Option.bind_eq_some_iff.mp h
    obtain ⟨gs, h2, h⟩ := Option.bind_eq_some_iff.mp h
    obtain ⟨h3, h⟩ := ite_none h
    subst h
    simp only [Bool.or_eq_false_iff] at h3
    obtain ⟨k1, k2, k3⟩ := (den_g C n).2 ts gs h2
    obtain ⟨k4, k5⟩ := each_ok (env := X.env) k2
    exact PS.weak (ps_asg (I.e e me h1) (PG.weak (pg_seq (n := gs.length) (C.calm h3.2) k1 (by rw [k4, k3]) k5) fun v sg H Q q => by rw [C.K]; exact tg_tq q) swap_tup (stores_no h3.1) rfl) fun En sg H q => ts_asg q
  · rename_i o i p2 e p heq
    cases heq
    obtain ⟨me, h1, h⟩ := Option.bind_eq_some_iff.mp h
    obtain ⟨mo, h2, h⟩ := Option.bind_eq_some_iff.mp h
    obtain ⟨mi, h2', h⟩ := Option.bind_eq_some_iff.mp h
    obtain ⟨h3, h⟩ := ite_none h
    subst h
    have lst : PS X (.Assign [.Subscript o i p2] e p) (tS R (callK T k) W (sAsg me (gSb mo mi))) := by
      refine PS.weak (ps_asg (I.e e me h1) (PG.weak (pg_sub (I.e o mo h2) (I.e i mi h2') set_list ?_) fun v sg H Q q => tg_sb q) swap_sub stores_sub rfl) fun En sg H q => ts_asg q
      intro v
      cases i <;> first | rfl | exact Bool.noConfusion h3
    exact ps_subG (ps_putG (by have := C.u65; omega) (I.e o mo h2) (I.e i mi h2') (I.e e me h1) swap_sub2) lst
  · rename_i x px e p heq
    cases heq
    obtain ⟨i, h1, h⟩ := Option.bind_eq_some_iff.mp h
    obtain ⟨me, h2, h⟩ := Option.bind_eq_some_iff.mp h
    cases h
    obtain ⟨k1, k2, k3⟩ := C.slotS h1
    exact PS.weak (ps_aug hN k1 k2 (I.e e me h2) or_iplus k3) fun En sg H q => ts_aug snd_iadd q
  · rename_i o f p2 e p heq
    cases heq
    obtain ⟨mo, h1, h⟩ := Option.bind_eq_some_iff.mp h
    obtain ⟨q, h3, h⟩ := Option.bind_eq_some_iff.mp h
    obtain ⟨me, h2, h⟩ := Option.bind_eq_some_iff.mp h
    cases h
    have hf : f = R.aN q := by rw [C.G.aN]; exact (nameAt_ok h3).symm
    subst hf
    exact PS.weak (ps_fldaug (I.e o mo h1) (I.e e me h2) in_add) fun En sg H q => ts_augA C.G.lk q
  · rename_i x p args kws pos rp heq
    cases heq
    obtain ⟨as, h1, h⟩ := Option.bind_eq_some_iff.mp h
    obtain ⟨bs, h2, h⟩ := Option.bind_eq_some_iff.mp h
    obtain ⟨hc, h⟩ := ite_non h
    simp only [Bool.or_eq_false_iff, Bool.not_eq_false'] at hc
    exact den_raise C hc.1 hc.2 (I.es args as h1) (I.ks kws bs h2) h
  · rename_i t pt e pa y q1 x q2 nm q3 q4 q5 q6 q7 q8 q9 heq
    cases heq
    split at h
    · rename_i m' hm
      cases h
      exact den_tryX C hm
    · cases h
      exact PS.weak (ps_try_thru ((ih _ X.nox _ C.nox).2 _) (B [])) fun En sg H q => ts_try q
  · rename_i body h0 hs orelse p _ heq
    cases heq
    cases h
    exact PS.weak (ps_try_thru ((ih _ X.nox _ C.nox).2 body) (B orelse)) fun En sg H q => ts_try q
  · cases h
theorem den_b : ∀ (n : Nat) (s : Sc) (X : Cx) (W : WX), Cok g R fD T k s X W → (∀ st m, denX g n s st = some m → PS X st (tS R (callK T k) W m)) ∧ (∀ sts, PSs X sts (tS R (callK T k) W (denB g n s sts)))
  | 0, s, X, W, C => ⟨fun st m h => (by unfold denX at h; cases h), fun sts => (by unfold denB; exact PSs.weak pss_never fun En sg H q => ts_never q)⟩
  | n + 1, s, X, W, C => by
    have ih := fun s X W C => den_b n s X W C
    refine ⟨den_x C ih, fun sts => ?_⟩
    unfold denB
    cases sts with
    | nil => exact PSs.weak pss_nil fun En sg H q => ts_nil q
    | cons st r =>
      refine PSs.weak (pss_cons (t := tS R (callK T k) W ((denX g n s st).getD sNever)) ?_ ((ih s X W C).2 r)) fun En sg H q => ts_seq q
      cases e : denX g n s st with
      | none => exact PS.weak ps_never fun En sg H q => ts_never q
      | some m => exact (ih s X W C).1 st m e
end
end OL
set_option maxRecDepth 100000
set_option maxHeartbeats 0
/-! ## all defs together, the law's call -/
namespace OL
open PySem PySem.Spec
open PyProof.Rows L2

structure FSrc where
  d : He5.DefA
  ps : List Str
  N : List Str
  lam : Bool
def FSrc.sc (f : FSrc) : Sc := ⟨f.N, f.d.scope, fun _ => true, f.lam, true⟩
def mkT (g : Gam) (fu : Nat) (L : List FSrc) : List FnI := L.map fun f => ⟨f.ps, f.N, denB g fu f.sc f.d.body⟩
/-- a def's names -/
def scopeB (N ps : List Str) (sc : Scope) : Bool :=
  (match sc.kind with | .function => true | _ => false) && !sc.isCoroutine && !sc.isGenerator && nodupB N && decide (N.take ps.length = ps) &&
    (ps.all fun x => match sc.names.lookup x with | some .local => true | some .cell => true | _ => false) && (sc.names.all fun y => match y.2 with | .free => false | _ => true)
theorem scopeB_ok {N ps : List Str} {sc : Scope} (h : scopeB N ps sc = true) : FnScope N ps sc := by
  unfold scopeB at h
  simp only [Bool.and_eq_true, Bool.not_eq_true', decide_eq_true_eq, List.all_eq_true] at h
  obtain ⟨⟨⟨⟨⟨⟨h1, h2⟩, h3⟩, h4⟩, h5⟩, h6⟩, h7⟩ := h
  refine ⟨?_, h2, h3, nodupB_ok h4, h5, fun x hx => ?_, fun y hy e => ?_⟩
  · split at h1
    · assumption
    · cases h1
  · have q := h6 x hx
    split at q <;> first | exact .inl (by assumption) | exact .inr (by assumption) | cases q
  · have q := h7 y hy
    rw [e] at q
    cases q
/-- the names of attributes and methods -/
def plainN (l : List Str) : Bool := l.all fun x => x.cps.all fun c => decide (c < 1000000)
theorem nameAt_get {l : List Str} {t i : Nat} : (∃ x, l[i]? = some x ∧ nameAt l t i = x) ∨ (l[i]? = none ∧ nameAt l t i = ⟨#[t, i]⟩) := by
  unfold nameAt
  cases e : l[i]? with
  | none => exact .inr ⟨rfl, rfl⟩
  | some x => exact .inl ⟨x, rfl, rfl⟩
theorem plain_ne {l : List Str} (h : plainN l = true) {x : Str} (hx : x ∈ l) {t i : Nat} (ht : 1000000 ≤ t) : x ≠ ⟨#[t, i]⟩ := fun e => by
  unfold plainN at h
  have q := List.all_eq_true.mp h x hx
  rw [e] at q
  simp only [Array.all_eq_true] at q
  have := q 0 (by simp)
  simp only [List.getElem_toArray, List.getElem_cons_zero, decide_eq_true_eq] at this
  omega
theorem nameAt_inj {l : List Str} {t : Nat} (ht : 1000000 ≤ t) (hp : plainN l = true) (nd : l.Nodup) {i j : Nat} (h : nameAt l t i = nameAt l t j) : i = j := by
  rcases nameAt_get (l := l) (t := t) (i := i) with ⟨x, e1, e2⟩ | ⟨e1, e2⟩ <;> rcases nameAt_get (l := l) (t := t) (i := j) with ⟨y, e3, e4⟩ | ⟨e3, e4⟩
  · rw [e2, e4] at h
    subst h
    obtain ⟨hi, _⟩ := List.getElem?_eq_some_iff.mp e1
    exact (List.getElem?_inj hi nd).mp (e1.trans e3.symm)
  · rw [e2, e4] at h
    exact absurd h (plain_ne hp (List.mem_of_getElem? e1) ht)
  · rw [e2, e4] at h
    exact absurd h.symm (plain_ne hp (List.mem_of_getElem? e3) ht)
  · rw [e2, e4] at h
    injection h with h
    simp at h
    exact h
theorem nameAt_dis {l m : List Str} {t u : Nat} (ht : 1000000 ≤ t) (hu : 1000000 ≤ u) (ne : t ≠ u) (hp : plainN l = true) (hq : plainN m = true) (hd : (l.all fun x => !m.contains x) = true) (i j : Nat) : nameAt l t i ≠ nameAt m u j := fun h => by
  rcases nameAt_get (l := l) (t := t) (i := i) with ⟨x, e1, e2⟩ | ⟨e1, e2⟩ <;> rcases nameAt_get (l := m) (t := u) (i := j) with ⟨y, e3, e4⟩ | ⟨e3, e4⟩
  · rw [e2, e4] at h
    subst h
    have q := List.all_eq_true.mp hd x (List.mem_of_getElem? e1)
    rw [List.contains_iff_mem.mpr (List.mem_of_getElem? e3)] at q
    cases q
  · rw [e2, e4] at h
    exact absurd h (plain_ne hp (List.mem_of_getElem? e1) hu)
  · rw [e2, e4] at h
    exact absurd h.symm (plain_ne hq (List.mem_of_getElem? e3) ht)
  · rw [e2, e4] at h
    injection h with h
    simp at h
    exact ne h.1
section
variable {g : Gam} {R : RC} {fD : Nat → FuncData} {fu : Nat} {L : List FSrc} {P : Program} {w : World} {K : PySem.W.Frag} {mg : Str → Option Value} {base : Heap}
theorem mkT_get {j : Nat} {fi : FnI} (h : (mkT g fu L)[j]? = some fi) : ∃ f, L[j]? = some f ∧ fi = ⟨f.ps, f.N, denB g fu f.sc f.d.body⟩ := by
  unfold mkT at h
  rw [List.getElem?_map] at h
  obtain ⟨f, e1, e2⟩ := Option.map_eq_some_iff.mp h
  exact ⟨f, e1, e2.symm⟩
/-- all but the defs' promises -/
def GokAt (g : Gam) (R : RC) (fD : Nat → FuncData) (T : List FnI) (P : Program) (w : World) (K : PySem.W.Frag) (mg : Str → Option Value) (base : Heap) : Prop := ∀ k, Fns g.md R fD T P w K mg base k → Gok g R fD T k P w K mg base
theorem all_fns (hG : GokAt g R fD (mkT g fu L) P w K mg base) (hn : g.md = .cold → Gok g.nar R fD g.nt 3 P w K mg base) (hs : ∀ (j : Nat) (f : FSrc), L[j]? = some f → scopeB f.N f.ps f.d.scope = true)
    (hf : ∀ (j : Nat) (f : FSrc), L[j]? = some f → ∃ dvs kws, FunD K f.d.name f.d.qual f.d.params f.d.body f.d.scope dvs kws (R.fA j) (fD j))
    (hl : ∀ (j : Nat) (f : FSrc), L[j]? = some f → f.lam = true → ∃ cO tA, (fD j).code = .ref cO ∧ LamX.TabB base mg cO tA ∧ (tA, f.d.qual ++ ".<locals>." ++ "<lambda>") ∈ R.tb ∧ ∀ p ∈ R.tb, p.1 = tA → p.2 = f.d.qual ++ ".<locals>." ++ "<lambda>") : ∀ k, Fns g.md R fD (mkT g fu L) P w K mg base k
  | 0 => fun j fi hj => ⟨fun vs H Q E h => h.1, fun A outer s H args us vs Q E hr e0 hb r h => by
    obtain ⟨_, rho, st, xs, _, _, gd⟩ := h
    exact gd.elim⟩
  | k + 1 => fun j fi hj => by
    have ih := all_fns hG hn hs hf hl k
    obtain ⟨f, e1, e2⟩ := mkT_get hj
    obtain ⟨dvs, kws, F⟩ := hf j f e1
    obtain ⟨oc, od, dV, kV, doc, pm, an, cdv, ct, osl, ef, lk, hcd, _⟩ := F.ex
    have S := scopeB_ok (hs j f e1)
    rw [ef] at lk
    rw [ef]
    subst e2
    have e4 : 6 * (k + 1) + hb g.md = 6 * k + hb g.md + 5 + 1 := by omega
    rw [e4]
    refine fn_step (lv := 6 * k + hb g.md + 5) hj lk hcd S fun A outer s H E hr => ?_
    refine (den_b (g := g) (k := k) fu f.sc (cxG g.md P w K mg base f.N f.d.qual f.d.scope (R.fA j) cdv A outer s H E) (fun cls d _ H' => E cls d H') ⟨rfl, S.nd, rfl, S.kind, fun _ _ => rfl, fun q => by show (!g.hot) = true; rw [q]; rfl, hr.mono (by omega), takesm_of rfl rfl rfl rfl, passes_of (K := fun e s'' => CXm g.md.nc P w outer H s E e s'') rfl, hG k ih, fun z => ?_, fun _ => ⟨rfl, rfl, fun hd => PassesOwnAt.leaving⟩, fun _ => hn⟩).2 f.d.body
    obtain ⟨cO, tA, a1, a2, a3, a4⟩ := hl j f e1 z
    rw [ef] at a1
    exact ⟨cO, tA, a1, a2, a3, a4, hr⟩
end
end OL
set_option maxRecDepth 100000
set_option maxHeartbeats 0
/-! ## the law's own call -/
namespace OL
open PySem PySem.Spec
open PyProof.Rows L2

def scriptO (vs : List Value) : Obj := { cls := .type "list", data := .seq vs.toArray }
def tblO : Obj := { cls := .none, data := .fields #[] }
/-- what is tracked where the law starts: at most the script, and the tables of the code objects -/
structure Dawn (P : Program) (w : World) (R : RC) (s : Shared) (cs : List (Addr × Addr)) (a : Addr) (ns : List Int) (H : Hp) : Prop where
  free : ∀ b, b ≠ a → b ∉ cs.map (·.2) → H b = none
  kept : ∀ o, R.K.lookup a = some o → H a = none
  fl : ∃ vs, FlAt R ⟨[], cs.map (·.2)⟩ H a vs ∧ vs = ns.map V.int
  tabs : ∀ b, b ∈ cs.map (·.2) → H b = some (.tbl #[])
  hok : HOk P w H s.heap
theorem dawn {P : Program} {w : World} {R : RC} {s : Shared} {cs : List (Addr × Addr)} {a : Addr} {vs : List Value} {ns : List Int} (KX : R.K.In s.heap) (ha : s.heap.get? a = some (scriptO vs)) (hT : ∀ b, b ∈ cs.map (·.2) → s.heap.get? b = some tblO) (hi : IntsAre vs ns) (hl : ns.length ≤ sizeLine) : ∃ H, Dawn P w R s cs a ns H := by
  have rv := vals_ints hi
  have hlen : vs.length ≤ sizeLine := by rw [hi.length]; exact hl
  have aT : a ∉ cs.map (·.2) := fun z => by
    have q := hT a z
    rw [ha] at q
    exact Data.noConfusion (congrArg Obj.data (Option.some.inj q) : Data.seq vs.toArray _ = Data.fields #[])
  by_cases hk : ∃ o, R.K.lookup a = some o
  · obtain ⟨o, ho⟩ := hk
    have eo : scriptO vs = o := Option.some.inj (ha.symm.trans (KX a o ho))
    subst eo
    refine ⟨fun b => if b ∈ cs.map (·.2) then some (.tbl #[]) else none, fun b _ hb => if_neg hb, fun _ _ => if_neg aT, ⟨_, .inr ⟨scriptO vs, vs.toArray, 0, ho, rfl, rfl, rfl, by simpa using hlen, by simpa using rv⟩, rfl⟩, fun b hb => if_pos hb, ?_⟩
    intro b u hu
    by_cases hb : b ∈ cs.map (·.2)
    · have z := (if_pos hb).symm.trans hu
      cases z
      exact hT b hb
    · have z := (if_neg hb).symm.trans hu
      cases z
  · refine ⟨upd (fun b => if b ∈ cs.map (·.2) then some (.tbl #[]) else none) a (.frz (scriptO vs) (.lst (ns.map V.int))), fun b hb hc => by rw [upd_ne hb]; exact if_neg hc, fun o ho => absurd ⟨o, ho⟩ hk, ⟨_, .inl ⟨scriptO vs, upd_same, fun n h => by simp at h, aT⟩, rfl⟩, fun b hb => ?_, ?_⟩
    · rw [upd_ne fun z => aT (by rw [← z]; exact hb)]
      exact if_pos hb
    · intro b u hu
      by_cases hb : b = a
      · subst hb
        rw [upd_same] at hu
        obtain rfl := Option.some.inj hu
        exact ⟨ha, by simpa using hl, vs, 0, rv, ha⟩
      · rw [upd_ne hb] at hu
        by_cases hc : b ∈ cs.map (·.2)
        · have z := (if_pos hc).symm.trans hu
          cases z
          exact hT b hc
        · have z := (if_neg hc).symm.trans hu
          cases z
/-- what is tracked is a list or a table -/
theorem dawn_free {P : Program} {w : World} {R : RC} {s : Shared} {cs : List (Addr × Addr)} {a b : Addr} {ns : List Int} {H : Hp} {vs : List Value} {o : Obj} (D : Dawn P w R s cs a ns H) (ha : s.heap.get? a = some (scriptO vs)) (hT : ∀ b, b ∈ cs.map (·.2) → s.heap.get? b = some tblO) (e : s.heap.get? b = some o)
    (h1 : ∀ xs n, o.data ≠ .seq xs n) (h2 : o.data ≠ .fields #[]) : H b = none := by
  by_cases hb : b = a
  · subst hb
    obtain rfl := Option.some.inj (ha.symm.trans e)
    exact absurd rfl (h1 _ _)
  · by_cases hc : b ∈ cs.map (·.2)
    · obtain rfl := Option.some.inj ((hT b hc).symm.trans e)
      exact absurd rfl h2
    · exact D.free b hb hc
/-- the world that no def changes -/
theorem dawn_mod {P : Program} {w : World} {R : RC} {s : Shared} {cs : List (Addr × Addr)} {a : Addr} {ns : List Int} {H : Hp} {vs : List Value} {mg mb : Str → Option Value} (D : Dawn P w R s cs a ns H) (KX : R.K.In s.heap) (ha : s.heap.get? a = some (scriptO vs)) (hT : ∀ b, b ∈ cs.map (·.2) → s.heap.get? b = some tblO)
    (nT : ∀ b, b ∈ cs.map (·.2) → R.K.lookup b = none) (hns : s.heap.Ns mainGlobals mg)
    (hb : s.heap.Ns builtinsNs mb) (hbb : ∀ x : Str, x ≠ "__name__" → mb x = bootBuiltins x) (hlim : s.heap.NoLimit) : Mod R.K mg (hidT s.heap H) := by
  have other : ∀ (b : Addr) (m : Str → Option Value), s.heap.Ns b m → (hidT s.heap H).Ns b m := by
    rintro b m ⟨o, es, ep, e, d, r⟩
    exact ⟨o, es, ep, hidT_get e (dawn_free D ha hT e (fun xs n z => by rw [d] at z; cases z) fun z => by rw [d] at z; cases z), d, r⟩
  refine ⟨fun b o e => ?_, other _ _ hns, ⟨mb, other _ _ hb, hbb⟩, ?_⟩
  · by_cases hba : b = a
    · subst hba
      exact hidT_get (KX b o e) (D.kept o e)
    · refine hidT_get (KX b o e) (D.free b hba fun z => ?_)
      rw [nT b z] at e
      cases e
  · obtain ⟨mc, h1, h2⟩ := hlim
    exact ⟨mc, other _ _ h1, h2⟩
theorem dawn_tab {P : Program} {w : World} {R : RC} {s : Shared} {cs : List (Addr × Addr)} {a : Addr} {ns : List Int} {H : Hp} {vs : List Value} {mg : Str → Option Value} (D : Dawn P w R s cs a ns H) (ha : s.heap.get? a = some (scriptO vs)) (hT : ∀ b, b ∈ cs.map (·.2) → s.heap.get? b = some tblO)
    (C : ∀ p, p ∈ cs → PySem.W.CodeHd s.heap p.1 p.2) (hns : s.heap.Ns mainGlobals mg)
    (hbm : ∃ (bm : Addr) (ob : Obj), mg "__builtins__" = some (.ref bm) ∧ bm ≠ builtinsNs ∧ s.heap.get? bm = some ob ∧ ob.cls = .type "module" ∧ ob.dict = some builtinsNs ∧ ob.data = .plain) : ∀ p, p ∈ cs → LamX.TabB (hidT s.heap H) mg p.1 p.2 := fun p hp => by
  have tp := hT p.2 (List.mem_map_of_mem hp)
  refine ⟨?_, ?_, fun z => ?_⟩
  · obtain ⟨o, us, file, tf, flags, tg, inF, text, tt, e1, r1, r2, r3, r4⟩ := C p hp
    refine ⟨o, us, file, tf, flags, tg, inF, text, tt, hidT_get e1 (dawn_free D ha hT e1 (fun xs n z => by rw [r2] at z; cases z) fun z => ?_), r1, r2, r3, r4⟩
    rw [r2] at z
    cases z
    simp at r3
  · obtain ⟨bm, ob, b1, b2, b3, b4, b5, b6⟩ := hbm
    refine ⟨bm, ob, b1, b2, fun q => ?_, fun q => ?_, hidT_get b3 (dawn_free D ha hT b3 (fun xs n z => by rw [b6] at z; cases z) fun z => by rw [b6] at z; cases z), b4, b5, b6⟩
    · obtain ⟨o, es, ep, e, hd, _⟩ := hns
      rw [q, e] at b3
      cases b3
      rw [hd] at b6
      cases b6
    · rw [q, tp] at b3
      cases b3
      cases b6
  · obtain ⟨o, es, ep, e, hd, _⟩ := hns
    rw [z, tp] at e
    cases e
    cases hd
theorem room_top {k : Nat} (hk : k ≤ 140) : RoomG false k callerA := by
  have h1 : callerA.depth + 3 * 140 + 5 < recursionLimit := by decide +kernel
  have h2 : callerA.units + 16 * 140 + 200 < cLine := by decide +kernel
  exact ⟨by omega, by omega, rfl, fun _ => rfl⟩
theorem law_g {cs : List (Addr × Addr)} {P : Program} {w : World} {R : RC} {mg mb : Str → Option Value} {fD : Nat → FuncData} {T : List FnI} {k j : Nat} {fa a : Addr} {x : Str} {fi : FnI} {s : Shared} {vs : List Value} {ns : List Int}
    (KX : R.K.In s.heap) (hns : s.heap.Ns mainGlobals mg) (hb : s.heap.Ns builtinsNs mb) (hbb : ∀ x : Str, x ≠ "__name__" → mb x = bootBuiltins x) (hlim : s.heap.NoLimit) (hg : s.gens = #[])
    (hT : ∀ b, b ∈ cs.map (·.2) → s.heap.get? b = some tblO) (nT : ∀ b, b ∈ cs.map (·.2) → R.K.lookup b = none) (hC : ∀ p, p ∈ cs → PySem.W.CodeHd s.heap p.1 p.2) (htb : ∀ p, p ∈ R.tb → p.1 ∈ cs.map (·.2))
    (hbm : ∃ (bm : Addr) (ob : Obj), mg "__builtins__" = some (.ref bm) ∧ bm ≠ builtinsNs ∧ s.heap.get? bm = some ob ∧ ob.cls = .type "module" ∧ ob.dict = some builtinsNs ∧ ob.data = .plain)
    (ha : s.heap.get? a = some (scriptO vs)) (hi : IntsAre vs ns) (hl : ns.length ≤ sizeLine) (hk : 6 * k ≤ 120) (hfa : R.fA j = fa) (hj : T[j]? = some fi) (hps : fi.ps = [x])
    (F : ∀ base : Heap, R.K.In base → base.Ns mainGlobals mg → (∀ p, p ∈ cs → LamX.TabB base mg p.1 p.2) → Fns .cold R fD T P w R.K mg base k) (hbind : BindsTo s (fD j) ⟨[.ref a], []⟩ [(x, .ref a)])
    (hrun : ∃ st', callK T k j [.fl (ns.map .int)] [] = .ok (.bl true) st') :
    codeAny (model P w) callerA (.call (.ref fa) ⟨[.ref a], []⟩) (fun r s' => r = .ok (.ret (.bool true)) ∧ OldK s.heap s'.heap ∧ s'.os = s.os ∧ AllBare s'.gens) s := by
  obtain ⟨H, D⟩ := dawn (P := P) (w := w) (R := R) (cs := cs) KX ha hT hi hl
  have M := dawn_mod D KX ha hT nT hns hb hbb hlim
  have TB := dawn_tab D ha hT hC hns hbm
  have e0 : Env0 P w R.K mg (hidT s.heap H) callerA [] s H :=
    { frames := rfl, mod := M, bs := fun b o e => of_hidT e, bsz := Nat.le_of_eq (hidT_size _ _), funs := trivial, frf := fun b h => (by cases h), hok := D.hok, bare := .of_eq hg }
  have FN := F _ M.kin M.glob TB j fi hj
  subst hfa
  rw [hps] at FN
  obtain ⟨us, hfl, hus⟩ := D.fl
  subst hus
  have hIn : ∀ l : List Int, RepVs R ⟨[], cs.map (·.2)⟩ H (l.map PV.int) (l.map V.int) := fun l => by
    induction l with
    | nil => simp [RepVs]
    | cons i l ih => exact RepVs.cons (by simp only [RepV]) ih
  have S0 : StRep R ⟨[], cs.map (·.2)⟩ [] H := ⟨rfl, fun n m b h => (by simp at h), fun n c h => (by simp at h), fun n b h => (by simp at h), fun b h => ⟨_, D.tabs b h⟩, fun p hp => LamX.TabS.nil (D.tabs _ (htb p hp)), htb⟩
  have sp : spF R (callK T k) j 1 [.ref a] H (fun v _ => v = .bl true) (fun _ _ _ => False) := by
    obtain ⟨st', e⟩ := hrun
    refine ⟨rfl, ⟨[], cs.map (·.2)⟩, [], [.fl (ns.map .int)], S0, RepVs.cons ?_ (by simp only [RepVs]), ?_⟩
    · simp only [RepV]
      exact ⟨a, _, rfl, hfl, hIn ns⟩
    · rw [e]
      exact fun rho' H' b _ _ h => by simpa only [RepV] using h
  have run := FN.run callerA [] s H ⟨[.ref a], []⟩ [.ref a] [.ref a] (fun v _ => v = .bl true) (fun _ _ _ => False) (room_top (show 6 * k + 20 ≤ 140 by omega)) e0 hbind (.cons rfl .nil) sp
  refine codeAny_mono run fun r s' h => ?_
  match r, h with
  | .error e, h =>
    obtain ⟨_, _, _, _, _, _, _, _, _, _, _, _, z⟩ := h
    exact z.elim
  | .ok (.ret u), ⟨v, H', os, bare, un, hok', rl, qv⟩ =>
    have qv : v = .bl true := qv
    subst qv
    obtain rfl : u = Value.bool true := rl
    have key : ∀ b o, b ∉ cs.map (·.2) → s.heap.get? b = some o → s'.heap.get? b = some o := fun b o hc e => by
      by_cases hb2 : H b = none
      · exact un.keep b o e hb2 (fun z => (by cases z)) (by simp)
      · have hba : b = a := Classical.byContradiction fun z => hb2 (D.free b z hc)
        subst hba
        rcases hfl with ⟨ob, hq, _⟩ | ⟨ob, its, n, hq, _⟩
        · have e1 := (D.hok b _ hq).1
          have e2 := (hok' b _ (un.frzs b ob _ hq)).1
          rw [e] at e1
          obtain rfl := Option.some.inj e1
          exact e2
        · exact absurd (D.kept _ hq) hb2
    have grown : ∀ b, b ∈ cs.map (·.2) → ∃ more : Array Value, s'.heap.get? b = some { cls := .none, data := .fields more } := fun b hc => by
      obtain ⟨more, z⟩ := un.tbls b #[] (D.tabs b hc)
      exact ⟨_, hok' b _ z⟩
    refine ⟨rfl, ⟨fun b o e => ?_, fun b o e => ?_⟩, os, bare⟩
    · by_cases hc : b ∈ cs.map (·.2)
      · obtain ⟨more, hm⟩ := grown b hc
        obtain rfl := Option.some.inj ((hT b hc).symm.trans e)
        obtain ⟨p, hp, ep⟩ := List.mem_map.mp hc
        subst ep
        exact .inr (.inl ⟨((hC p hp).tab (hT _ hc)).isCodeTable, rfl, #[], more, rfl, by rw [Array.empty_append]; exact hm⟩)
      · exact .inl (key b o hc e)
    · by_cases hc : b ∈ cs.map (·.2)
      · obtain ⟨more, hm⟩ := grown b hc
        exact ⟨_, hm⟩
      · exact ⟨o, key b o hc e⟩
end OL
set_option maxRecDepth 100000
set_option maxHeartbeats 0
/-! ## the head: what the module's top leaves, told by one Hook -/
namespace OL
open PySem PySem.Spec
open PyProof.Rows L2

/-- the data of a law's program -/
structure Tab where
  cn : List Str
  mt : List ((Nat × Nat) × Nat)
  fl : List (Nat × Nat)
  ini : List (Nat × Nat)
  isa : List ((Nat × Nat) × Bool)
  gl : List (Str × Gv)
  free : List Str
  aL : List Str
  mL : List Str
  mu : List (Nat × Nat)
  frz : List Nat
  sg : List (Nat × List Str × List PV)
  own : List Nat
  ow : List (Nat × Nat)
  cms : List ((Nat × Nat) × Nat)
  mks : List (Nat × Nat)
  xcs : List (Nat × (List Str × List Nat))
  xis : List (Nat × List ((Bool × Nat) × Bool))
  xfl : List (Nat × Nat)
  file : Str
  dvs : List (Nat × Nat)
  cats : List (Nat × Nat × List Nat)
  xhs : List (Nat × List Nat)
def Tab.tb (t : Tab) : Tb := ⟨fun c m => t.mt.lookup (c, m), fun c k => t.fl.contains (c, k), fun _ _ => none, fun c k => t.xfl.contains (c, k)⟩
/-- the def that catches, read from its text -/
def catOf (f : FSrc) (jh : Nat) (hits : List Nat) : Option Cat :=
  match f.ps, f.d.body with
  | [a], [.Try [.Assign [.Name tel _] (.Call (.Name act _) [] [] _) _] [.ExceptHandler (some (.Tuple [.Name y1 _, .Name y2 _, .Name y3 _] _ _)) (some nm) [.Return (some (.Call (.Name hn _) [.Name nm' _] [] _)) _] _] [] [] _, .Return (some ret) _] =>
    (match ixS tel f.N, ixS nm f.N with
    | some it, some im => if a = act ∧ nm' = nm then some ⟨f.N, f.d.scope, act, tel, nm, hn, y1, y2, y3, it, im, jh, hits, ret⟩ else none
    | _, _ => none)
  | _, _ => none
def Tab.cat (t : Tab) (L : List FSrc) : List (Nat × Cat) := t.cats.filterMap fun (j, jh, hits) => (L[j]?).bind fun f => (catOf f jh hits).map fun c => (j, c)
def Tab.gamW (t : Tab) (md : Md) (cat : List (Nat × Cat)) (ht nt : List FnI) : Gam := ⟨t.tb, fun c d => t.isa.lookup (c, d), t.gl, t.free, t.aL, t.mL, fun c => t.ini.lookup c, t.mu, t.frz, t.sg, t.own, t.ow, t.cms, t.mks, t.xcs, t.xis, t.dvs, md, cat, ht, nt, t.xhs⟩
/-- the defs as a handler calls them, and as they are called elsewhere -/
def Tab.th (t : Tab) (fu : Nat) (L : List FSrc) : List FnI := mkT (t.gamW .hot [] [] []) fu L
def Tab.tn (t : Tab) (fu : Nat) (L : List FSrc) : List FnI := mkT (t.gamW .nar [] [] []) fu L
def Tab.gam (t : Tab) (fu : Nat) (L : List FSrc) : Gam := t.gamW .cold (t.cat L) (t.th fu L) (t.tn fu L)
def Tab.cA (t : Tab) (K : PySem.W.Frag) (c : Nat) : Addr := He.ga K (t.cn.getD c Str.empty)
def fAt (L : List FSrc) (K : PySem.W.Frag) (j : Nat) : Addr := match L[j]? with
  | some f => f.d.at_ K
  | none => 0
/-- a def's code object and its table -/
def ctAt (K : PySem.W.Frag) (a : Addr) : Addr × Addr := match K.lookup a with
  | some ⟨_, _, .func fd, _⟩ => (match fd.code with
    | .ref c => (match K.lookup c with
      | some ⟨_, _, .fields vs, _⟩ => (match (vs[11]? : Option Value) with
        | some (.ref P) => (c, P)
        | _ => (0, 0))
      | _ => (0, 0))
    | _ => (0, 0))
  | _ => (0, 0)
def lamsOf (L : List FSrc) : List FSrc := L.filter fun f => f.lam
def ctsOf (L : List FSrc) (K : PySem.W.Frag) : List (Addr × Addr) := (lamsOf L).map fun f => ctAt K (f.d.at_ K)
def tbOf (L : List FSrc) (K : PySem.W.Frag) : List (Addr × Str) := (lamsOf L).map fun f => ((ctAt K (f.d.at_ K)).2, f.d.qual ++ ".<locals>." ++ "<lambda>")
def rcOf (t : Tab) (L : List FSrc) (K : PySem.W.Frag) : RC := ⟨K, t.cA K, nameAt t.aL 2000000, fAt L K, tbOf L K⟩
/-! a constant of the module -/
mutual
def pvB (K : PySem.W.Frag) : PV → Value → Bool
  | .non, u => (match u with
    | .none => true
    | _ => false)
  | .bl b, u => (match u with
    | .bool c => b == c
    | _ => false)
  | .int i, u => (match u with
    | .int j _ => decide (i = j)
    | _ => false)
  | .str x, u => (match u with
    | .str y _ => decide (x = y)
    | _ => false)
  | .kt xs, u => (match u with
    | .ref a => (match K.lookup a with
      | some ⟨.type c, _, .seq its _, _⟩ => decide (c = "tuple") && decide (its.size ≤ sizeLine) && pvsB K xs its.toList
      | _ => false)
    | _ => false)
  | _, _ => false
def pvsB (K : PySem.W.Frag) : List PV → List Value → Bool
  | [], us => us.isEmpty
  | x :: xs, us => (match us with
    | u :: us => pvB K x u && pvsB K xs us
    | [] => false)
end
mutual
theorem pvB_ok {R : RC} : ∀ (x : PV) (u : Value), pvB R.K x u = true → ∃ v, RelV v u ∧ ∀ rho H, RepV R rho H x v
  | .non, u, h => by
    simp only [pvB] at h
    split at h
    · exact ⟨.non, rfl, fun _ _ => by simp only [RepV]⟩
    · cases h
  | .bl b, u, h => by
    simp only [pvB] at h
    split at h
    · rename_i c
      simp only [beq_iff_eq] at h
      exact ⟨.bl c, rfl, fun _ _ => by simp only [RepV, h]⟩
    · cases h
  | .int b, u, h => by
    simp only [pvB] at h
    split at h
    · rename_i c t
      simp only [decide_eq_true_eq] at h
      exact ⟨.int c, ⟨t, rfl⟩, fun _ _ => by simp only [RepV, h]⟩
    · cases h
  | .str b, u, h => by
    simp only [pvB] at h
    split at h
    · rename_i c t
      simp only [decide_eq_true_eq] at h
      exact ⟨.str c, ⟨t, rfl⟩, fun _ _ => by simp only [RepV, h]⟩
    · cases h
  | .kt xs, u, h => by
    simp only [pvB] at h
    split at h
    · rename_i a
      split at h
      · rename_i c od its n sl q
        simp only [Bool.and_eq_true, decide_eq_true_eq] at h
        obtain ⟨⟨h1, h2⟩, h3⟩ := h
        obtain ⟨vs, r1, r2⟩ := pvsB_ok (R := R) xs _ h3
        exact ⟨.ref a, rfl, fun rho H => by
          simp only [RepV]
          exact ⟨a, vs, rfl, ⟨_, its, n, q, by rw [h1], rfl, h2, r1⟩, r2 rho H⟩⟩
      · cases h
    · cases h
  | .ty _, u, h => by simp only [pvB] at h; cases h
  | .tup _, u, h => by simp only [pvB] at h; cases h
  | .cls _, u, h => by simp only [pvB] at h; cases h
  | .fn _, u, h => by simp only [pvB] at h; cases h
  | .lv _, u, h => by simp only [pvB] at h; cases h
  | .fl _, u, h => by simp only [pvB] at h; cases h
  | .iv _ _ _, u, h => by simp only [pvB] at h; cases h
  | .dv _ _, u, h => by simp only [pvB] at h; cases h
  | .xv _ _ _, u, h => by simp only [pvB] at h; cases h
  | .obj _, u, h => by simp only [pvB] at h; cases h
theorem pvsB_ok {R : RC} : ∀ (xs : List PV) (us : List Value), pvsB R.K xs us = true → ∃ vs, Vals vs us ∧ ∀ rho H, RepVs R rho H xs vs
  | [], us, h => by
    simp only [pvsB, List.isEmpty_iff] at h
    subst h
    exact ⟨[], .nil, fun _ _ => by simp only [RepVs]⟩
  | x :: xs, us, h => by
    simp only [pvsB] at h
    split at h
    · rename_i u us
      simp only [Bool.and_eq_true] at h
      obtain ⟨v, r1, r2⟩ := pvB_ok (R := R) x u h.1
      obtain ⟨vs, q1, q2⟩ := pvsB_ok (R := R) xs us h.2
      exact ⟨v :: vs, .cons r1 q1, fun rho H => RepVs.cons (r2 rho H) (q2 rho H)⟩
    · cases h
end
theorem lk_mem {α : Type} [BEq α] [LawfulBEq α] {β : Type} {x : α} {v : β} : ∀ {l : List (α × β)}, l.lookup x = some v → (x, v) ∈ l
  | [], h => by cases h
  | (y, w) :: r, h => by
    rw [List.lookup_cons] at h
    cases e : x == y with
    | true =>
      rw [e] at h
      have := Option.some.inj h
      subst this
      rw [eq_of_beq e]
      exact List.mem_cons_self
    | false =>
      rw [e] at h
      exact List.mem_cons_of_mem _ (lk_mem h)
/-! ### the checks -/
def clsB (K : PySem.W.Frag) (C : Addr) : Bool := PySem.W.plainGet K C Str.empty && (PySem.W.hasDictIn K C && (PySem.W.plainOver K C && He.eqO (PySem.W.findIn K (.ref C) "__setattr__") (some (some (.builtin "object.__setattr__")))))
theorem clsB_ok {K : PySem.W.Frag} {C : Addr} (h : clsB K C = true) : Cls K C := by
  unfold clsB at h
  simp only [Bool.and_eq_true] at h
  exact ⟨h.1, h.2.1, h.2.2.1, He.eqO_ok h.2.2.2⟩
def isiB (K : PySem.W.Frag) (C : Addr) : Bool := ((List.range 10).all fun n => decide (PySem.W.kitOne K (.type (tyN n)) (.ref C) = some false)) && ((List.range 6).all fun n => decide (PySem.W.kitOne K (.ref C) (.type (tyN n)) = some false)) && clsB K C &&
  He.eqO (PySem.W.findIn K (.ref C) "__class__") (some (some (.builtin "object.__class__"))) && He.eqO (PySem.W.specialIn K (.builtin "object.__class__") "__get__") (some (some (.builtin "getset_descriptor.__get__"))) &&
  decide (PySem.W.takesIn K (.builtin "object.__class__") = some true) && decide (PySem.W.mroIn K C (.type "object") = some true)
def ownB (K : PySem.W.Frag) (C : Addr) : Bool := He.eqO (PySem.W.findIn K (.ref C) "__ne__") (some (some (.builtin "object.__ne__"))) && decide (PySem.W.mroIn K C (.type "object") = some true) &&
  ((List.range 7).all fun n => decide (PySem.W.subIn K (.ref C) (.type (tyN n)) = some false)) && ((List.range 7).all fun n => decide (PySem.W.mroIn K C (.type (tyN n)) = some false)) && ((List.range 7).all fun n => PySem.W.notFirst K C (.type (tyN n))) &&
  He.eqO (PySem.W.findIn K (.ref C) "__bool__") (some none) && He.eqO (PySem.W.findIn K (.ref C) "__len__") (some none)
theorem ownB_ok {K : PySem.W.Frag} {C : Addr} (h : ownB K C = true) : OwnC K C := by
  unfold ownB at h
  simp only [Bool.and_eq_true, List.all_eq_true, decide_eq_true_eq, List.mem_range] at h
  obtain ⟨⟨⟨⟨⟨⟨h1, h2⟩, h3⟩, h4⟩, h5⟩, h6⟩, h7⟩ := h
  exact ⟨He.eqO_ok h1, h2, h3, h4, h5, He.eqO_ok h6, He.eqO_ok h7⟩
def cmB (K : PySem.W.Frag) (C : Addr) (m : Str) (f : Addr) : Bool := PySem.W.readsIn K C (.type "type") && (He5.wrapB K C "classmethod" "classmethod.__get__" m && (decide (He5.wf K C "classmethod" m = f) && PySem.W.fnIn K f))
theorem cmB_ok {K : PySem.W.Frag} {C f : Addr} {m : Str} (h : cmB K C m f = true) : CmOk K C m f := by
  unfold cmB at h
  simp only [Bool.and_eq_true, decide_eq_true_eq] at h
  obtain ⟨h1, h2, h3, h4⟩ := h
  subst h3
  refine ⟨⟨_, _, ⟨h1, ?_⟩, He5.cmet_of h2 h4⟩⟩
  unfold PySem.W.readsIn at h1
  simp only [Bool.and_eq_true] at h1
  unfold PySem.W.specialIn
  rw [beq_iff_eq.mp h1.1.1.1.2, Option.bind_some]
  exact beq_iff_eq.mp h1.1.1.2
/-! ### classes of exceptions -/
def xbases : List (String × String × String × List Value) :=
  [("ValueError", "ValueError.__new__", "ValueError.__init__", [.type "ValueError", .type "Exception", .type "BaseException", .type "object"]),
   ("LookupError", "LookupError.__new__", "LookupError.__init__", [.type "LookupError", .type "Exception", .type "BaseException", .type "object"]),
   ("ArithmeticError", "ArithmeticError.__new__", "ArithmeticError.__init__", [.type "ArithmeticError", .type "Exception", .type "BaseException", .type "object"])]
theorem xbases_ok {b : String × String × String × List Value} (h : b ∈ xbases) : ExcBaseFacts b.1 b.2.1 b.2.2.1 b.2.2.2 ∧ StoreFacts b.1 b.2.2.2 "object.__setattr__" "object" ∧ PySem.W.KxsFacts b.1 b.2.2.1 := by
  unfold xbases at h
  rcases List.mem_cons.mp h with rfl | h
  · exact ⟨F.excBase_ValueError, F.store_ValueError, PySem.W.kxs_ValueError⟩
  rcases List.mem_cons.mp h with rfl | h
  · exact ⟨F.excBase_LookupError, F.store_LookupError, PySem.W.kxs_LookupError⟩
  rcases List.mem_cons.mp h with rfl | h
  · exact ⟨F.excBase_ArithmeticError, F.store_ArithmeticError, PySem.W.kxs_ArithmeticError⟩
  cases h
def xfcB (K : PySem.W.Frag) (C : Addr) : Bool := He.eqO (PySem.W.findIn K (.ref C) "__getattribute__") (some (some (.builtin "BaseException.__getattribute__"))) && He.eqO (PySem.W.findIn K (.ref C) "__getattr__") (some none) && decide (PySem.W.subIn K (.ref C) (.type "BaseException") = some true) && PySem.W.hasDictIn K C
theorem xfcB_ok {K : PySem.W.Frag} {C : Addr} (h : xfcB K C = true) : XfC K C := by
  unfold xfcB at h
  simp only [Bool.and_eq_true, decide_eq_true_eq] at h
  exact ⟨He.eqO_ok h.1.1.1, He.eqO_ok h.1.1.2, h.1.2, h.2⟩
def excB (K : PySem.W.Frag) (C : Addr) : Bool := xfcB K C && He.eqO (PySem.W.findIn K (.ref C) "__class__") (some (some (.builtin "object.__class__"))) && He.eqO (PySem.W.specialIn K (.builtin "object.__class__") "__get__") (some (some (.builtin "getset_descriptor.__get__"))) &&
  decide (PySem.W.takesIn K (.builtin "object.__class__") = some true) && decide (PySem.W.mroIn K C (.type "object") = some true)
theorem excB_ok {K : PySem.W.Frag} {C : Addr} (h : excB K C = true) : ExcC K C := by
  unfold excB at h
  simp only [Bool.and_eq_true, decide_eq_true_eq] at h
  have f := xfcB_ok h.1.1.1.1
  exact ⟨f.ga, f.gg, f.exC, f.hdC, He.eqO_ok h.1.1.1.2, He.eqO_ok h.1.1.2, h.1.2, h.2⟩
def xiRB (sn : Str) : List Stmt → List (Str × Str) → Bool
  | [], fs => fs.isEmpty
  | st :: r, fs => (match st, fs with
    | .Assign [.Attribute (.Name s _) f _] (.Name p _) _, (f', p') :: fs => decide (s = sn) && decide (f = f') && decide (p = p') && xiRB sn r fs
    | _, _ => false)
theorem xiRB_ok {sn : Str} : ∀ {r : List Stmt} {fs : List (Str × Str)}, xiRB sn r fs = true → XiR sn r fs
  | [], fs, h => by
    simp only [xiRB, List.isEmpty_iff] at h
    subst h
    exact .nil
  | st :: r, fs, h => by
    simp only [xiRB] at h
    split at h
    · simp only [Bool.and_eq_true, decide_eq_true_eq] at h
      obtain ⟨⟨⟨h1, h2⟩, h3⟩, h4⟩ := h
      subst h1; subst h2; subst h3
      exact .cons (xiRB_ok h4)
    · cases h
def xiBB (sn : Str) (fps : List (Str × Str)) : List Stmt → Bool
  | .Expr (.Call (.Attribute (.Call (.Name s0 _) [] [] _) i0 p2) [] [] p3) _ :: r => decide (s0 = "super") && decide (i0 = "__init__") && (p2.endLine == p3.line) && xiRB sn r fps
  | _ => false
theorem xiBB_ok {sn : Str} {fps : List (Str × Str)} {bd : List Stmt} (h : xiBB sn fps bd = true) : XiB sn fps bd := by
  unfold xiBB at h
  split at h
  · simp only [Bool.and_eq_true, decide_eq_true_eq] at h
    obtain ⟨⟨⟨h1, h2⟩, h3⟩, h4⟩ := h
    subst h1; subst h2
    exact .at_ h3 (xiRB_ok h4)
  · cases h
def xbodyB (sn : Str) (fps : List (Str × Str)) : FuncBody → Bool
  | .stmts bd => xiBB sn fps bd
  | _ => false
def xcellB (K : PySem.W.Frag) (C : Addr) (cl : List (Str × Addr)) : Bool := match cl.lookup ("__class__" : Str) with
  | some cc => (match K.lookup cc with
    | some ⟨_, _, .cell (some (.ref D)), _⟩ => D == C
    | _ => false)
  | none => false
def xcodeB (K : PySem.W.Frag) (file : Str) : Value → Bool
  | .ref cda => (match K.lookup cda with
    | some ⟨_, _, .fields vs, _⟩ => (match (vs[2]? : Option Value) with
      | some (.str f _) => decide (f = file)
      | _ => false)
    | _ => false)
  | _ => false
def xiKB (K : PySem.W.Frag) (file : Str) (C : Addr) (initId : String) (fd : FuncData) (sn : Str) (pr : List Str) (fps : List (Str × Str)) : Bool :=
  xbodyB sn fps fd.body && decide ((fd.params.posonlyargs ++ fd.params.args).head?.map (·.arg) = some sn) && (fd.globals == mainGlobals) && (fd.builtins == builtinsNs) && xcellB K C fd.closure && PySem.W.codeIn K fd.code fd.qualname && xcodeB K file fd.code &&
  decide (fd.scope.kind = .function) && !fd.scope.isCoroutine && !fd.scope.isGenerator && (fd.scope.names.all fun x => !decide (x.2 = .cell)) && decide (fd.scope.names.lookup ("super" : Str) = some .globalImplicit) && decide (fd.scope.names.lookup ("__class__" : Str) = some .free) &&
  ((sn :: pr).all fun x => decide (fd.scope.names.lookup x = some .local)) && nodupB (sn :: pr) && (fps.all fun q => He.eqO (PySem.W.findIn K (.ref C) q.1) (some none) && (sn :: pr).contains q.2 && !(q.2 == ("__debug__" : Str))) && decide (fps.length ≤ 900) && !(sn == ("__debug__" : Str)) &&
  He.eqO (PySem.W.ks_superIn K C C "__init__") (some (some (.builtin initId))) && decide (PySem.W.mroIn K C (.ref C) = some true) && He.eqO (PySem.W.nsIn K mainGlobals "super") (some none) && plainP fd.params (sn :: pr) && (match fd.defaults with
    | .none => true
    | _ => false)
def xcB1 (K : PySem.W.Frag) (file : Str) (C : Addr) (sn : Str) (pr : List Str) (fps : List (Str × Str)) (b : String × String × String × List Value) : Bool :=
  PySem.W.excInitIn K C b.2.2.2 b.2.1 && He.eqO (PySem.W.findIn K (.ref C) "__setattr__") (some (some (.builtin "object.__setattr__"))) && PySem.W.excOver K C b.2.2.2 && PySem.W.hasDictIn K C && He.eqO (PySem.W.nsIn K cStatics "thirdparty.any") (some none) && decide (PySem.W.subIn K (.ref C) (.type b.1) = some true) &&
  (match PySem.W.findIn K (.ref C) "__init__" with
    | some (some (.ref fI)) => PySem.W.isFn K (.ref fI) && (match K.lookup fI with
      | some ⟨_, _, .func fd, _⟩ => xiKB K file C b.2.2.1 fd sn pr fps
      | _ => false)
    | _ => false)
def xcB (t : Tab) (K : PySem.W.Frag) : Nat × (List Str × List Nat) → Bool
  | (c, (ps, ks)) => PySem.W.keepIn K (.ref (t.cA K c)) && (match ps with
    | [] => xbases.any fun b => PySem.W.excIn K (t.cA K c) b.2.2.2 b.2.1
    | sn :: pr => !pr.isEmpty && decide (pr.length = ks.length) && decide (PySem.W.subIn K (.ref (t.cA K c)) (.type "BaseException") = some true) && He.eqO (some (PySem.W.typeIn K (.ref (t.cA K c)))) (some (some (.type "type"))) && xbases.any fun b => xcB1 K t.file (t.cA K c) sn pr ((ks.map (nameAt t.aL 2000000)).reverse.zip pr) b)
/-- what must hold of the program itself -/
def progB (t : Tab) (P : Program) : Bool := decide ((P.main.file : Str) = t.file) && !(P.main.scope.names.lookup ("super" : Str)).isSome
theorem xiKB_ok {K : PySem.W.Frag} {P : Program} {t : Tab} {C fI : Addr} {initId : String} {fd : FuncData} {sn : Str} {pr : List Str} {fps : List (Str × Str)} {oc : Value} {od : Option Addr} {osl : Array (Option Value)} (hP : progB t P = true) (h : xiKB K t.file C initId fd sn pr fps = true)
    (h1 : PySem.W.findIn K (.ref C) "__init__" = some (some (.ref fI))) (h2 : PySem.W.isFn K (.ref fI) = true) (h3 : K.lookup fI = some ⟨oc, od, .func fd, osl⟩) : XiK K P C fI initId fd sn (sn :: pr) fps ∧ plainP fd.params (sn :: pr) = true ∧ fd.defaults = .none := by
  unfold xiKB at h
  unfold progB at hP
  simp only [Bool.and_eq_true, decide_eq_true_eq, Bool.not_eq_true', beq_iff_eq, List.all_eq_true] at h hP
  obtain ⟨⟨⟨⟨⟨⟨⟨⟨⟨⟨⟨⟨⟨⟨⟨⟨⟨⟨⟨⟨⟨⟨a1, a2⟩, a3⟩, a4⟩, a5⟩, a6⟩, a7⟩, a8⟩, a9⟩, a10⟩, a11⟩, a12⟩, a13⟩, a14⟩, a15⟩, a16⟩, a17⟩, a18⟩, a19⟩, a20⟩, a21⟩, a22⟩, a23⟩ := h
  refine ⟨{ ini := h1, fn := h2, lk := ⟨_, _, _, h3⟩, body := ?_, par := a2, glob := a3, blt := a4, cell := ?_, rec_ := a6, code := ?_, kind := a8, co := a9, gen := a10, nocell := fun x hx => ?_, sup := a12, cl_ := a13, loc := a14, nodup := nodupB_ok a15, fld := fun q hq => ?_, few := a17, self := ⟨pr, rfl⟩, sdb := a18, step := He.eqO_ok a19, mro := a20, noS := He.eqO_ok a21, top := ?_ }, a22, ?_⟩
  · unfold xbodyB at a1
    split at a1
    · rename_i bd eb
      exact ⟨bd, eb, xiBB_ok a1⟩
    · cases a1
  · unfold xcellB at a5
    split at a5
    · rename_i cc ec
      split at a5
      · rename_i D _ e1
        obtain rfl := beq_iff_eq.mp a5
        exact ⟨cc, _, _, _, ec, e1⟩
      · cases a5
    · cases a5
  · unfold xcodeB at a7
    split at a7
    · rename_i cda ec
      split at a7
      · rename_i vs _ e1
        split at a7
        · rename_i f tf e2
          refine ⟨cda, _, _, vs, _, f, tf, ec, e1, e2, ?_⟩
          rw [hP.1, of_decide_eq_true a7]
          simp
        · cases a7
      · cases a7
    · cases a7
  · have := a11 x hx
    simpa using this
  · have := a16 q hq
    obtain ⟨⟨b1, b2⟩, b3⟩ := this
    exact ⟨He.eqO_ok b1, List.contains_iff_mem.mp b2, b3⟩
  · exact hP.2
  · split at a23
    · rename_i e; exact e
    · cases a23
theorem xcB_ok {t : Tab} {L : List FSrc} {K : PySem.W.Frag} {P : Program} {c : Nat} {ps : List Str} {ks : List Nat} (hP : progB t P = true) (h : xcB t K (c, (ps, ks)) = true) : if ps.isEmpty then Xc0 (rcOf t L K) K c else XcOk (rcOf t L K) K P c ps ks := by
  unfold xcB at h
  simp only [Bool.and_eq_true] at h
  obtain ⟨hk, h⟩ := h
  cases ps with
  | nil =>
    simp only [List.any_eq_true] at h
    obtain ⟨b, hb, h⟩ := h
    exact ⟨⟨_, _, _, _, (xbases_ok hb).1, h⟩, hk⟩
  | cons sn pr =>
    simp only [Bool.and_eq_true, List.any_eq_true, Bool.not_eq_true', decide_eq_true_eq] at h
    obtain ⟨⟨⟨⟨h1, h2⟩, h5⟩, h6⟩, b, hb, h⟩ := h
    obtain ⟨f1, f2, f3⟩ := xbases_ok hb
    unfold xcB1 at h
    simp only [Bool.and_eq_true, decide_eq_true_eq] at h
    obtain ⟨⟨⟨⟨⟨⟨c1, c2⟩, c3⟩, c4⟩, c5⟩, c6⟩, c7⟩ := h
    split at c7
    · rename_i fI e1
      simp only [Bool.and_eq_true] at c7
      obtain ⟨d1, d2⟩ := c7
      split at d2
      · rename_i fd _ e2
        obtain ⟨z1, z2, z3⟩ := xiKB_ok hP d2 e1 d1 e2
        exact ⟨⟨b.1, b.2.1, b.2.2.1, b.2.2.2, fI, fd, sn, pr, ⟨f1, f2, f3, c1, He.eqO_ok c2, c3, c4, He.eqO_ok c5, c6⟩, z1, rfl, h2, z2, z3, by intro q; rw [q] at h1; cases h1⟩, hk, h5, Option.some.inj (He.eqO_ok h6)⟩
      · cases d2
    · cases c7
def smB (K : PySem.W.Frag) : Bool := match K.lookup sysModules with
  | some o => (match o.cls with
    | .type n => !decide (n = "list")
    | _ => false)
  | none => false
theorem smB_ok {K : PySem.W.Frag} (h : smB K = true) : SysM K := by
  unfold smB at h
  split at h
  · rename_i o e
    split at h
    · rename_i n en
      refine ⟨o, e, fun q => ?_⟩
      rw [en] at q
      cases q
      simp at h
    · cases h
  · cases h
def xisB (t : Tab) (K : PySem.W.Frag) : Nat × List ((Bool × Nat) × Bool) → Bool
  | (c, l) => excB K (t.cA K c) && l.all fun ((b, d), r) => if b then decide (PySem.W.kitOne K (.ref (t.cA K c)) (.type (tyN d)) = some r) else decide (PySem.W.kitOne K (.ref (t.cA K c)) (.ref (t.cA K d)) = some r)
def glB (t : Tab) (L : List FSrc) (K : PySem.W.Frag) : Str × Gv → Bool
  | (x, .c v) => (match PySem.W.nsIn K mainGlobals x with
    | some (some u) => pvB K v u
    | _ => false)
  | (x, .f j) => He.eqO (PySem.W.nsIn K mainGlobals x) (some (some (.ref (fAt L K j)))) && PySem.W.keepIn K (.ref (fAt L K j))
  | (x, .k c) => He.eqO (PySem.W.nsIn K mainGlobals x) (some (some (.ref (t.cA K c))))
def tabB (t : Tab) (L : List FSrc) (K : PySem.W.Frag) : Bool :=
  (t.fl.all fun (c, k) => He.eqO (PySem.W.findIn K (.ref (t.cA K c)) (nameAt t.aL 2000000 k)) (some none) && clsB K (t.cA K c)) &&
  (t.mt.all fun ((c, m), j) => He.eqO (PySem.W.findIn K (.ref (t.cA K c)) (nameAt t.mL 3000000 m)) (some (some (.ref (fAt L K j)))) && PySem.W.isFn K (.ref (fAt L K j)) && PySem.W.keepIn K (.ref (fAt L K j)) && clsB K (t.cA K c)) &&
  (t.ini.all fun (c, j) => PySem.W.makesIn K (t.cA K c) && He.eqO (PySem.W.findIn K (.ref (t.cA K c)) "__init__") (some (some (.ref (fAt L K j)))) && PySem.W.isFn K (.ref (fAt L K j)) && PySem.W.keepIn K (.ref (t.cA K c))) &&
  (t.gl.all (glB t L K)) && (t.free.all fun x => He.eqO (PySem.W.nsIn K mainGlobals x) (some none)) &&
  (t.isa.all fun ((c, d), r) => decide (PySem.W.kitOne K (.ref (t.cA K c)) (.ref (t.cA K d)) = some r) && isiB K (t.cA K c)) &&
  (t.own.all fun c => ownB K (t.cA K c) && t.own.all fun d => PySem.W.notFirst K (t.cA K c) (.ref (t.cA K d))) &&
  (t.cms.all fun ((c, m), j) => cmB K (t.cA K c) (nameAt t.mL 3000000 m) (fAt L K j)) && smB K && (t.xcs.all (xcB t K)) && (t.xis.all (xisB t K)) &&
  (t.xfl.all fun (c, k) => xfcB K (t.cA K c) && He.eqO (PySem.W.findIn K (.ref (t.cA K c)) (nameAt t.aL 2000000 k)) (some none))
def dvB : He.Dv → PV → Bool
  | .non, .non => true
  | .bl b, .bl c => b == c
  | .int b, .int c => decide (b = c)
  | .str b, .str c => decide (b = c)
  | _, _ => false
def dvsB : List He.Dv → List PV → Bool
  | [], [] => true
  | d :: ds, v :: vs => dvB d v && dvsB ds vs
  | _, _ => false
theorem dvB_ok {K : PySem.W.Frag} {d : He.Dv} {v : PV} (h : dvB d v = true) : flatOf v = d.v K ∧ flatB v = true := by
  unfold dvB at h
  split at h
  · exact ⟨rfl, rfl⟩
  · simp only [beq_iff_eq] at h; subst h; exact ⟨rfl, rfl⟩
  · simp only [decide_eq_true_eq] at h; subst h; exact ⟨rfl, rfl⟩
  · simp only [decide_eq_true_eq] at h; subst h; exact ⟨rfl, rfl⟩
  · cases h
theorem dvsB_ok {K : PySem.W.Frag} : ∀ {ds : List He.Dv} {vs : List PV}, dvsB ds vs = true → vs.map flatOf = ds.map (He.Dv.v K) ∧ vs.all flatB = true
  | [], [], _ => ⟨rfl, rfl⟩
  | d :: ds, v :: vs, h => by
    simp only [dvsB, Bool.and_eq_true] at h
    obtain ⟨h1, h2⟩ := dvB_ok (K := K) h.1
    obtain ⟨h3, h4⟩ := dvsB_ok (K := K) h.2
    exact ⟨by simp only [List.map_cons, h1, h3], by simp only [List.all_cons, h2, h4]; rfl⟩
  | [], _ :: _, h => by simp [dvsB] at h
  | _ :: _, [], h => by simp [dvsB] at h
def sgB (L : List FSrc) : Nat × List Str × List PV → Bool
  | (j, ps, dfl) => (match L[j]? with
    | some f => decide (f.ps = ps) && dvsB f.d.dfl dfl
    | none => false)
/-- what holds of the text alone -/
def txtB (t : Tab) (L : List FSrc) : Bool := plainN t.aL && plainN t.mL && nodupB t.aL && (t.aL.all fun x => !t.mL.contains x) && (L.all fun f => scopeB f.N f.ps f.d.scope && plainP f.d.params f.ps && allOk f.ps [] f.ps.length f.d.dfl.length && nodupB f.ps) && t.sg.all (sgB L)
theorem tyN_big : ∀ n : Nat, tyN n = tyN (if n < 10 then n else 9)
  | 0 => rfl | 1 => rfl | 2 => rfl | 3 => rfl | 4 => rfl | 5 => rfl | 6 => rfl | 7 => rfl | 8 => rfl | 9 => rfl
  | n + 10 => by rw [if_neg (by omega)]; rfl
def xhB (t : Tab) (K : PySem.W.Frag) : Bool := t.xhs.all fun (cy, l) => l.all fun k => decide (PySem.W.exmOne K (.ref (t.cA K k)) (.ref (t.cA K cy)) = some true)
theorem gok_of {t : Tab} {L : List FSrc} {g' : Gam} {md : Md} {cat : List (Nat × Cat)} {ht nt : List FnI} {fu : Nat} {K : PySem.W.Frag} {h base : Heap} {P : Program} {w : World} {mg : Str → Option Value} {fD : Nat → FuncData} (X : K.In h) (G : h.Ns mainGlobals mg) (c : tabB t L K = true) (hxb : xhB t K = true) (ct : txtB t L = true) (hP : progB t P = true)
    (hf : ∀ (j : Nat) (f : FSrc), L[j]? = some f → FunD K f.d.name f.d.qual f.d.params f.d.body f.d.scope (f.d.dvs K) (f.d.kws K) (fAt L K j) (fD j)) (hhf : md = .cold → Fns .hot (rcOf t L K) fD ht P w K mg base 4 ∧ ∀ (j : Nat) fi, ht[j]? = some fi → ∀ (s : Shared) (us : List Value), K.In s.heap → us.length = fi.ps.length → BindsTo s (fD j) ⟨us, []⟩ (fi.ps.zip us))
    (hct : ∀ j c, cat.lookup j = some c → ∃ name qual pa bd dV kV doc pm cdv cty oc an od osl, CatOk c (rcOf t L K) K mg ((rcOf t L K).fA j) name qual pa bd dV kV doc pm cdv cty oc an od osl ∧ c.Text bd) : ∀ k, Fns md (rcOf t L K) fD (mkT g' fu L) P w K mg base k → Gok (t.gamW md cat ht nt) (rcOf t L K) fD (mkT g' fu L) k P w K mg base := by
  unfold tabB at c
  unfold txtB at ct
  simp only [Bool.and_eq_true, List.all_eq_true] at c ct
  obtain ⟨⟨⟨⟨⟨⟨⟨⟨⟨⟨⟨c1, c2⟩, c3⟩, c4⟩, c5⟩, c6⟩, c7⟩, c8⟩, c9⟩, c10⟩, c11⟩, c12⟩ := c
  obtain ⟨⟨⟨⟨⟨t1, t2⟩, t3⟩, t4⟩, t5⟩, t6⟩ := ct
  have isi : ∀ cc d r, (t.gamW md cat ht nt).isa cc d = some r → PySem.W.kitOne K (.ref (t.cA K cc)) (.ref (t.cA K d)) = some r ∧ isiB K (t.cA K cc) = true := fun cc d r e => by
    have := c6 ((cc, d), r) (lk_mem e)
    simp only [decide_eq_true_eq] at this
    exact this
  intro k fs
  refine { lk := ⟨rfl, fun i j e => nameAt_inj (by decide) t1 (nodupB_ok t3) e, fun cc q e => ?_, fun cc m j e => ?_, fun m q => ?_, fun cc q e => ?_, fun j fi hj s us KX hl => ?_⟩, aN := rfl, fs := fs, gc := fun x v e => ?_, gf := fun x j e => ?_, gk := fun x cc e => ?_, free := fun x e => ?_, isi := ⟨fun cc d r e => (isi cc d r e).1, fun n cc r e => ?_, fun cc m r hm e => ?_, fun cc d r e => ?_⟩, isx := ⟨fun cc d r e => ?_, fun cc d r e => ?_⟩, sm := smB_ok c9, xc := fun cc ps ks e => xcB_ok hP (c10 (cc, (ps, ks)) (lk_mem e)), ow := ⟨fun cc e => ownB_ok (c7 cc (List.contains_iff_mem.mp e)).1, fun cc d e1 e2 => (c7 cc (List.contains_iff_mem.mp e1)).2 d (List.contains_iff_mem.mp e2)⟩, cmo := fun cc i j e => cmB_ok (c8 ((cc, i), j) (lk_mem e)), ini := fun cc j e => ?_, npr := fun _ _ _ => rfl, hf := hhf, cto := hct, xho := fun cy k' e => ?_, sgo := fun j ps dfl e => ?_ }
  · have e : t.fl.contains (cc, q) = true := e
    have h1 := c1 (cc, q) (List.contains_iff_mem.mp e)
    exact ⟨He.eqO_ok h1.1, clsB_ok h1.2⟩
  · have h1 := c2 ((cc, m), j) (lk_mem e)
    exact ⟨⟨He.eqO_ok h1.1.1.1, h1.1.1.2, h1.1.2⟩, clsB_ok h1.2⟩
  · refine nameAt_dis (by decide) (by decide) (by decide) t1 t2 (List.all_eq_true.mpr t4) q m
  · have e : t.xfl.contains (cc, q) = true := e
    have h1 := c12 (cc, q) (List.contains_iff_mem.mp e)
    exact ⟨xfcB_ok h1.1, He.eqO_ok h1.2⟩
  · obtain ⟨f, e1, e2⟩ := mkT_get hj
    subst e2
    have q := t5 f (List.mem_of_getElem? e1)
    exact pos_ok (hf j f e1) q.1.1.2 (by rw [show (f.d.dvs K).length = f.d.dfl.length from List.length_map _]; exact q.1.2) (nodupB_ok q.2) s us KX hl
  · have h1 := c4 (x, .c v) (lk_mem e)
    unfold glB at h1
    simp only at h1
    split at h1
    · rename_i u eu
      obtain ⟨vv, r1, r2⟩ := pvB_ok (R := rcOf t L K) v u h1
      exact ⟨u, vv, PySem.W.mg_of X G eu, r1, fun rho st H _ => r2 rho H⟩
    · cases h1
  · have h1 := c4 (x, .f j) (lk_mem e)
    simp only [glB, Bool.and_eq_true] at h1
    exact ⟨PySem.W.mg_of X G (He.eqO_ok h1.1), h1.2⟩
  · have h1 := c4 (x, .k cc) (lk_mem e)
    exact PySem.W.mg_of X G (He.eqO_ok h1)
  · have h1 := c5 x (List.contains_iff_mem.mp e)
    exact PySem.W.mg_none_of X G (He.eqO_ok h1)
  · have h1 := (isi cc cc r e).2
    unfold isiB at h1
    simp only [Bool.and_eq_true, List.all_eq_true, decide_eq_true_eq, List.mem_range] at h1
    rw [tyN_big n]
    exact h1.1.1.1.1.1.1 _ (by split <;> omega)
  · have h1 := (isi cc cc r e).2
    unfold isiB at h1
    simp only [Bool.and_eq_true, List.all_eq_true, decide_eq_true_eq, List.mem_range] at h1
    exact h1.1.1.1.1.1.2 m hm
  · have h1 := (isi cc d r e).2
    unfold isiB at h1
    simp only [Bool.and_eq_true, List.all_eq_true, decide_eq_true_eq, List.mem_range] at h1
    exact ⟨clsB_ok h1.1.1.1.1.2, He.eqO_ok h1.1.1.1.2, He.eqO_ok h1.1.1.2, h1.1.2, h1.2⟩
  · obtain ⟨l, e1, e2⟩ := Option.bind_eq_some_iff.mp (show (t.xis.lookup cc).bind (fun l => l.lookup (false, d)) = some r from e)
    have h1 := c11 (cc, l) (lk_mem e1)
    simp only [xisB, Bool.and_eq_true, List.all_eq_true] at h1
    have h2 := h1.2 ((false, d), r) (lk_mem e2)
    simp only [Bool.false_eq_true, if_false, decide_eq_true_eq] at h2
    exact ⟨excB_ok h1.1, h2⟩
  · obtain ⟨l, e1, e2⟩ := Option.bind_eq_some_iff.mp (show (t.xis.lookup cc).bind (fun l => l.lookup (true, d)) = some r from e)
    have h1 := c11 (cc, l) (lk_mem e1)
    simp only [xisB, Bool.and_eq_true, List.all_eq_true] at h1
    have h2 := h1.2 ((true, d), r) (lk_mem e2)
    simp only [if_true, decide_eq_true_eq] at h2
    exact ⟨excB_ok h1.1, h2⟩
  · have h1 := c3 (cc, j) (lk_mem e)
    exact ⟨h1.1.1.1, He.eqO_ok h1.1.1.2, h1.1.2, h1.2⟩
  · have e : (t.gamW md cat ht nt).hit cy k' = true := e
    unfold Gam.hit at e
    split at e
    · rename_i l el
      unfold xhB at hxb
      have z := List.all_eq_true.mp hxb (cy, l) (lk_mem el)
      have z2 := List.all_eq_true.mp z k' (List.contains_iff_mem.mp e)
      exact of_decide_eq_true z2
    · cases e
  · have h1 := t6 (j, ps, dfl) (lk_mem e)
    unfold sgB at h1
    simp only at h1
    split at h1
    · rename_i f ef
      simp only [Bool.and_eq_true, decide_eq_true_eq] at h1
      obtain ⟨d1, d2⟩ := dvsB_ok (K := K) h1.2
      refine ⟨⟨f.ps, f.N, denB g' fu f.sc f.d.body⟩, by unfold mkT; rw [List.getElem?_map, ef]; rfl, h1.1, d2, fun ks n ok => ?_⟩
      have F := hf j f ef
      unfold He5.DefA.dvs at F
      rw [← d1] at F
      rw [← h1.1] at ok ⊢
      exact shape_ok F (t5 f (List.mem_of_getElem? ef)).1.1.2 ok
    · cases h1
theorem pos_of {t : Tab} {L : List FSrc} {K : PySem.W.Frag} {g : Gam} {fu : Nat} {fD : Nat → FuncData} (ct : txtB t L = true) (hf : ∀ (j : Nat) (f : FSrc), L[j]? = some f → FunD K f.d.name f.d.qual f.d.params f.d.body f.d.scope (f.d.dvs K) (f.d.kws K) (fAt L K j) (fD j)) :
    ∀ (j : Nat) fi, (mkT g fu L)[j]? = some fi → ∀ (s : Shared) (us : List Value), K.In s.heap → us.length = fi.ps.length → BindsTo s (fD j) ⟨us, []⟩ (fi.ps.zip us) := fun j fi hj s us KX hl => by
  unfold txtB at ct
  simp only [Bool.and_eq_true, List.all_eq_true] at ct
  obtain ⟨f, e1, e2⟩ := mkT_get hj
  subst e2
  have q := ct.1.2 f (List.mem_of_getElem? e1)
  exact pos_ok (hf j f e1) q.1.1.2 (by rw [show (f.d.dvs K).length = f.d.dfl.length from List.length_map _]; exact q.1.2) (nodupB_ok q.2) s us KX hl
/-! ### defs that catch -/
def glV (K : PySem.W.Frag) (x : Str) : Value := match PySem.W.nsIn K mainGlobals x with
  | some (some v) => v
  | _ => .none
def impB (c : Cat) (K : PySem.W.Frag) (x : Str) : Bool := decide (c.sc.names.lookup x = some .globalImplicit) && He.eqO (PySem.W.nsIn K mainGlobals x) (some (some (glV K x))) && !(x == ("__debug__" : Str))
def catB (t : Tab) (L : List FSrc) (K : PySem.W.Frag) (c : Cat) : Bool :=
  decide (c.sc.names.lookup c.tel = some .local) && decide (c.sc.names.lookup c.nm = some .local) && !(c.nm == ("__debug__" : Str)) && !(c.nm == ("__classdict__" : Str)) && !(c.act == ("__debug__" : Str)) && !(c.act == ("__classdict__" : Str)) &&
  decide (c.sc.names.lookup c.hn = some .globalImplicit) && He.eqO (PySem.W.nsIn K mainGlobals c.hn) (some (some (.ref (fAt L K c.jh)))) && PySem.W.keepIn K (.ref (fAt L K c.jh)) && !(c.hn == ("__debug__" : Str)) &&
  impB c K c.y1 && impB c K c.y2 && impB c K c.y3 && c.hits.all fun k => decide (PySem.W.exmAny K (.ref (t.cA K k)) [glV K c.y1, glV K c.y2, glV K c.y3] = some true)
theorem catOf_ok {f : FSrc} {jh : Nat} {hits : List Nat} {c : Cat} (h : catOf f jh hits = some c) : f.ps = [c.act] ∧ c.N = f.N ∧ c.sc = f.d.scope ∧ c.N[c.it]? = some c.tel ∧ c.N[c.im]? = some c.nm ∧ c.Text f.d.body := by
  unfold catOf at h
  split at h
  · rename_i e1 e2
    split at h
    · rename_i h1 h2
      split at h
      · rename_i hc
        obtain ⟨c1, c2⟩ := hc
        subst c1
        subst c2
        cases h
        exact ⟨e1, rfl, rfl, ixS_ok h1, ixS_ok h2, _, _, _, _, _, _, _, _, _, _, _, _, _, _, _, _, e2⟩
      · cases h
    · cases h
  · cases h
theorem cat_ok {t : Tab} {L : List FSrc} {K : PySem.W.Frag} {h : Heap} {mg : Str → Option Value} {fD : Nat → FuncData} (X : K.In h) (G : h.Ns mainGlobals mg) (ct : txtB t L = true) (hB : ((t.cat L).all fun p => catB t L K p.2) = true)
    (hf : ∀ (j : Nat) (f : FSrc), L[j]? = some f → FunD K f.d.name f.d.qual f.d.params f.d.body f.d.scope (f.d.dvs K) (f.d.kws K) (fAt L K j) (fD j)) (j : Nat) (c : Cat) (e : (t.cat L).lookup j = some c) :
    ∃ name qual pa bd dV kV doc pm cdv cty oc an od osl, CatOk c (rcOf t L K) K mg ((rcOf t L K).fA j) name qual pa bd dV kV doc pm cdv cty oc an od osl ∧ c.Text bd := by
  have hm := lk_mem e
  have hb := List.all_eq_true.mp hB _ hm
  unfold Tab.cat at hm
  obtain ⟨⟨j', jh, hits⟩, _, q⟩ := List.mem_filterMap.mp hm
  obtain ⟨f, q1, q2⟩ := Option.bind_eq_some_iff.mp q
  obtain ⟨c', q3, q4⟩ := Option.map_eq_some_iff.mp q2
  cases q4
  obtain ⟨k1, k2, k3, k4, k5, k6⟩ := catOf_ok q3
  have F := hf j f q1
  obtain ⟨oc, od, dV, kV, doc, pm, an, cdv, cty, osl, ef, lk, hcd, _⟩ := F.ex
  unfold txtB at ct
  simp only [Bool.and_eq_true, List.all_eq_true] at ct
  have qq := ct.1.2 f (List.mem_of_getElem? q1)
  have S := scopeB_ok qq.1.1.1
  unfold catB impB at hb
  simp only [Bool.and_eq_true, Bool.not_eq_true', decide_eq_true_eq, List.all_eq_true] at hb
  obtain ⟨⟨⟨⟨⟨⟨⟨⟨⟨⟨⟨⟨⟨b1, b2⟩, b3⟩, b4⟩, b5⟩, b6⟩, b7⟩, b8⟩, b9⟩, b10⟩, b11⟩, b12⟩, b13⟩, b14⟩ := hb
  rw [ef] at lk
  refine ⟨f.d.name, f.d.qual, f.d.params, f.d.body, dV, kV, doc, pm, cdv, cty, oc, an, od, osl, ⟨by rw [k3]; exact lk, hcd, F.kp, fun s us KX hl => ?_, ?_, ⟨k4, b1⟩, ⟨k5, b2, b3, b4⟩, ⟨b5, b6⟩, ⟨b7, PySem.W.mg_of X G (He.eqO_ok b8), b9, b10⟩,
    ⟨glV K c.y1, glV K c.y2, glV K c.y3, ⟨b11.1.1, PySem.W.mg_of X G (He.eqO_ok b11.1.2), b11.2⟩, ⟨b12.1.1, PySem.W.mg_of X G (He.eqO_ok b12.1.2), b12.2⟩, ⟨b13.1.1, PySem.W.mg_of X G (He.eqO_ok b13.1.2), b13.2⟩, b14⟩⟩, k6⟩
  · have z := pos_ok F qq.1.1.2 (by rw [show (f.d.dvs K).length = f.d.dfl.length from List.length_map _]; exact qq.1.2) (nodupB_ok qq.2) s us KX (by rw [k1]; exact hl)
    rw [k1, ef] at z
    rw [k3]
    exact z
  · rw [k2, k3, ← k1]
    exact S
/-! ### tables of lambdas -/
def isTbl : Option Obj → Bool
  | some ⟨.none, none, .fields vs, sl⟩ => vs.isEmpty && sl.isEmpty
  | _ => false
theorem isTbl_ok {x : Option Obj} (h : isTbl x = true) : x = some tblO := by
  unfold isTbl at h
  split at h
  · rename_i vs sl
    simp only [Bool.and_eq_true, Array.isEmpty_iff] at h
    rw [h.1, h.2]
    rfl
  · cases h
def lamB (L : List FSrc) (K : PySem.W.Frag) : Bool :=
  ((ctsOf L K).all fun p => PySem.W.codeHdIn K p.1 p.2 && (K.lookup p.2).isNone) && ((tbOf L K).all fun p => (tbOf L K).all fun q => !(p.1 == q.1) || decide (p.2 = q.2))
theorem ctAt_code {K : PySem.W.Frag} {a : Addr} {oc : Value} {od : Option Addr} {fd : FuncData} {sl : Array (Option Value)} (lk : K.lookup a = some ⟨oc, od, .func fd, sl⟩) (h : PySem.W.codeHdIn K (ctAt K a).1 (ctAt K a).2 = true) : fd.code = .ref (ctAt K a).1 := by
  have zero : PySem.W.codeHdIn K 0 0 = true → False := fun z => by
    unfold PySem.W.codeHdIn at z
    split at z
    · simp at z
    · cases z
  unfold ctAt at h ⊢
  rw [lk] at h ⊢
  simp only at h ⊢
  split at h
  · rename_i c ec
    split at h
    · split at h
      · exact ec
      · exact (zero h).elim
    · exact (zero h).elim
  · exact (zero h).elim
theorem lam_ok {t : Tab} {L : List FSrc} {K : PySem.W.Frag} {mg : Str → Option Value} {base : Heap} {fD : Nat → FuncData} (h : lamB L K = true) (TB : ∀ p, p ∈ ctsOf L K → LamX.TabB base mg p.1 p.2)
    (hf : ∀ (j : Nat) (f : FSrc), L[j]? = some f → FunD K f.d.name f.d.qual f.d.params f.d.body f.d.scope (f.d.dvs K) (f.d.kws K) (fAt L K j) (fD j)) (j : Nat) (f : FSrc) (e : L[j]? = some f) (hl : f.lam = true) :
    ∃ cO tA, (fD j).code = .ref cO ∧ LamX.TabB base mg cO tA ∧ (tA, f.d.qual ++ ".<locals>." ++ "<lambda>") ∈ (rcOf t L K).tb ∧ ∀ p ∈ (rcOf t L K).tb, p.1 = tA → p.2 = f.d.qual ++ ".<locals>." ++ "<lambda>" := by
  have mem : f ∈ lamsOf L := List.mem_filter.mpr ⟨List.mem_of_getElem? e, hl⟩
  have m1 : ctAt K (f.d.at_ K) ∈ ctsOf L K := List.mem_map.mpr ⟨f, mem, rfl⟩
  have m2 : ((ctAt K (f.d.at_ K)).2, f.d.qual ++ ".<locals>." ++ "<lambda>") ∈ tbOf L K := List.mem_map.mpr ⟨f, mem, rfl⟩
  unfold lamB at h
  simp only [Bool.and_eq_true, List.all_eq_true] at h
  have a1 := h.1 _ m1
  have F := hf j f e
  obtain ⟨oc, od, dV, kV, doc, pm, an, cdv, cty, osl, ef, lk, hcd, _⟩ := F.ex
  have hat : fAt L K j = f.d.at_ K := by unfold fAt; rw [e]
  rw [hat] at lk
  refine ⟨(ctAt K (f.d.at_ K)).1, (ctAt K (f.d.at_ K)).2, ctAt_code lk a1.1, TB _ m1, m2, fun p hp ep => ?_⟩
  have z := h.2 p hp _ m2
  simp only [Bool.or_eq_true, Bool.not_eq_true', decide_eq_true_eq, beq_eq_false_iff_ne] at z
  rcases z with z | z
  · exact absurd ep z
  · exact z
/-! ### the Hook -/
def defsOf (L : List FSrc) : List He5.DefA := L.map FSrc.d
def obsO (t : Tab) (L : List FSrc) (K : PySem.W.Frag) : He.AlD × Bool := (He5.obsA [] (defsOf L) K, tabB t L K && ((t.cat L).all fun p => catB t L K p.2) && lamB L K && xhB t K)
/-- the module's objects, without the tables of lambdas -/
def asT (n : Nat) (L : List FSrc) (g : Addr → Option Obj) : List Addr := match lamsOf L with
  | [] => sysModules :: He5.asA g n
  | _ => (fun ts => (sysModules :: He5.asA g n).filter fun a => !ts.contains a) ((ctsOf L (He.frG g (sysModules :: He5.asA g n))).map (·.2))
def obsOG (n : Nat) (t : Tab) (L : List FSrc) (g : Addr → Option Obj) : (He.AlD × Bool) × Bool := (obsO t L (He.frG g (asT n L g)), (ctsOf L (He.frG g (asT n L g))).all fun p => isTbl (g p.2))
def hookO (n : Nat) (t : Tab) (L : List FSrc) : PySem.W.Hook where
  α := (He.AlD × Bool) × Bool
  obs := fun s => obsOG n t L s.heap.get?
  val := fun _ => ((He5.valA (defsOf L), true), true)
  says := fun _ h => ∃ K : PySem.W.Frag, K.In h ∧ obsO t L K = (He5.valA (defsOf L), true) ∧ ∀ p, p ∈ ctsOf L K → h.get? p.2 = some tblO
  of := fun _ s e => ⟨He.frG s.heap.get? (asT n L s.heap.get?), He.frG_in, congrArg Prod.fst e, fun p hp => isTbl_ok (List.all_eq_true.mp (congrArg Prod.snd e) p hp)⟩
  keeps := fun _ _ _ ⟨K, hK, c, d⟩ k => ⟨K, PySem.W.Frag.In.keeps hK k, c, fun p hp => k _ _ (d p hp)⟩
theorem obsOG_eq {n : Nat} {t : Tab} {L : List FSrc} {g : Addr → Option Obj} {s : Shared} (h : ∀ a, g a = s.heap.get? a) : obsOG n t L g = (hookO n t L).obs s := by
  have e : g = s.heap.get? := funext h
  rw [e]; rfl
/-- the end of a law -/
theorem walk_g {l : PySem.W.OpenLaw} {n k fu j : Nat} {q : Program} {loose : List Str} {XP : (Str → Option Value) → Heap → Prop} {d : DefRec} {t : Tab} {L : List FSrc} {dep : Nat} {f : FSrc} {x : Str} (hn : l.most = some n) (hn2 : n ≤ sizeLine) (hdf : d.params.defaults = []) (hk : 6 * k ≤ 120) (hj : L[j]? = some f) (hps : f.ps = [x])
    (hat : ∀ K, f.d.at_ K = He.ga K d.name) (ct : txtB t L = true) (hpb : progB t l.prog = true) (hgl : t.gl.lookup d.name = some (.f j))
    (hrun : ∀ ns : List Int, ns.length ≤ n → ∃ st', callK (mkT (t.gam fu L) fu L) k j [.fl (ns.map .int)] [] = .ok (.bl true) st') :
    PySem.W.WalkO q loose XP (hookO dep t L).says l.row.toRowW d [] (fun f vs => PySem.call f vs) := by
  refine Att.attach_call hn hdf fun w s₀ s₁ mg mb fa o pm cd doc a vs ns G Y ho hd hcd hmg hobj hints hlen hg => ?_
  obtain ⟨K, KX, c, tbls⟩ := Y
  have cA : He5.SaysA [] (defsOf L) K := congrArg Prod.fst c
  have cB1 : (tabB t L K && ((t.cat L).all fun p => catB t L K p.2) && lamB L K && xhB t K) = true := congrArg Prod.snd c
  have cX : xhB t K = true := (Bool.and_eq_true_iff.mp cB1).2
  have cB0 : (tabB t L K && ((t.cat L).all fun p => catB t L K p.2) && lamB L K) = true := (Bool.and_eq_true_iff.mp cB1).1
  have cL : lamB L K = true := (Bool.and_eq_true_iff.mp cB0).2
  have cC : ((t.cat L).all fun p => catB t L K p.2) = true := (Bool.and_eq_true_iff.mp (Bool.and_eq_true_iff.mp cB0).1).2
  have cB : tabB t L K = true := (Bool.and_eq_true_iff.mp (Bool.and_eq_true_iff.mp cB0).1).1
  have hdef : ∀ (i : Nat) (f : FSrc), L[i]? = some f → ∃ fd, FunD K f.d.name f.d.qual f.d.params f.d.body f.d.scope (f.d.dvs K) (f.d.kws K) (fAt L K i) fd := fun i f e => by
    obtain ⟨fd, F⟩ := cA.def_ i (d := f.d) (by unfold defsOf; rw [List.getElem?_map, e]; rfl)
    refine ⟨fd, ?_⟩
    unfold fAt
    rw [e]
    exact F
  have hex : ∀ i : Nat, ∃ fd, ∀ f : FSrc, L[i]? = some f → FunD K f.d.name f.d.qual f.d.params f.d.body f.d.scope (f.d.dvs K) (f.d.kws K) (fAt L K i) fd := fun i => by
    cases e : L[i]? with
    | none => exact ⟨⟨Str.empty, Str.empty, ⟨[], [], none, [], [], none, []⟩, .stmts [], d.scope, 0, [], .none, .none, .none, .none, none, .none, .none, 0⟩, fun f z => by cases z⟩
    | some f =>
      obtain ⟨fd, F⟩ := hdef i f e
      exact ⟨fd, fun f' z => by cases z; exact F⟩
  have hF : ∀ (i : Nat) (f : FSrc), L[i]? = some f → FunD K f.d.name f.d.qual f.d.params f.d.body f.d.scope (f.d.dvs K) (f.d.kws K) (fAt L K i) (Classical.choose (hex i)) := fun i f e => Classical.choose_spec (hex i) f e
  have hT : (mkT (t.gam fu L) fu L)[j]? = some ⟨f.ps, f.N, denB (t.gam fu L) fu f.sc f.d.body⟩ := by
    unfold mkT
    rw [List.getElem?_map, hj]
    rfl
  have hmg2 : mg d.name = some (.ref (fAt L K j)) := by
    unfold tabB at cB
    simp only [Bool.and_eq_true, List.all_eq_true] at cB
    have h1 := cB.1.1.1.1.1.1.1.1.2 (d.name, .f j) (lk_mem hgl)
    simp only [glB, Bool.and_eq_true] at h1
    exact PySem.W.mg_of KX G.T.g (He.eqO_ok h1.1)
  have hfa : fAt L K j = fa := by
    rw [hmg] at hmg2
    cases hmg2
    rfl
  have ct' := ct
  unfold txtB at ct'
  simp only [Bool.and_eq_true, List.all_eq_true] at ct'
  have q5 := ct'.1.2 f (List.mem_of_getElem? hj)
  have cL' := cL
  unfold lamB at cL'
  simp only [Bool.and_eq_true, List.all_eq_true] at cL'
  have inT : ∀ b, b ∈ (ctsOf L K).map (·.2) → ∃ p, p ∈ ctsOf L K ∧ p.2 = b := fun b hb => List.mem_map.mp hb
  refine law_g (R := rcOf t L K) (cs := ctsOf L K) (fD := fun i => Classical.choose (hex i)) (k := k) (j := j) (x := x) KX G.T.g G.T.b G.T.builtins G.T.nolimit hg (fun b hb => ?_) (fun b hb => ?_) (fun p hp => PySem.W.codeHd_of_K KX (cL'.1 p hp).1) (fun p hp => ?_) G.T.bmain hobj hints (Nat.le_trans hlen hn2) hk hfa hT hps (fun base hKb hNs TB => ?_) ?_ (hrun ns hlen)
  · obtain ⟨p, hp, e⟩ := inT b hb
    rw [← e]
    exact tbls p hp
  · obtain ⟨p, hp, e⟩ := inT b hb
    rw [← e]
    have z := (cL'.1 p hp).2
    exact Option.isNone_iff_eq_none.mp z
  · obtain ⟨f', h1, h2⟩ := List.mem_map.mp (show p ∈ tbOf L K from hp)
    refine List.mem_map.mpr ⟨ctAt K (f'.d.at_ K), List.mem_map.mpr ⟨f', h1, rfl⟩, ?_⟩
    rw [← h2]
  · have sc : ∀ (i : Nat) (f : FSrc), L[i]? = some f → scopeB f.N f.ps f.d.scope = true := fun i f e => (ct'.1.2 f (List.mem_of_getElem? e)).1.1.1
    have lamF := lam_ok (t := t) cL TB hF
    have funF : ∀ (i : Nat) (f : FSrc), L[i]? = some f → ∃ dvs kws, FunD K f.d.name f.d.qual f.d.params f.d.body f.d.scope dvs kws ((rcOf t L K).fA i) (Classical.choose (hex i)) := fun i f e => ⟨_, _, hF i f e⟩
    have noCat : ∀ (j : Nat) (c : Cat), ([] : List (Nat × Cat)).lookup j = some c → ∃ name qual pa bd dV kV doc pm cdv cty oc an od osl, CatOk c (rcOf t L K) K mg ((rcOf t L K).fA j) name qual pa bd dV kV doc pm cdv cty oc an od osl ∧ c.Text bd := fun j c z => by cases z
    have hotF : Fns .hot (rcOf t L K) (fun i => Classical.choose (hex i)) (t.th fu L) l.prog w K mg base 4 :=
      all_fns (g := t.gamW .hot [] [] []) (gok_of KX G.T.g cB cX ct hpb hF (fun z => by cases z) noCat) (fun z => by cases z) sc funF lamF 4
    have narF : Fns .nar (rcOf t L K) (fun i => Classical.choose (hex i)) (t.tn fu L) l.prog w K mg base 3 :=
      all_fns (g := t.gamW .nar [] [] []) (gok_of KX G.T.g cB cX ct hpb hF (fun z => by cases z) noCat) (fun z => by cases z) sc funF lamF 3
    have catF := cat_ok KX G.T.g ct cC hF
    exact all_fns (g := t.gam fu L) (gok_of KX G.T.g cB cX ct hpb hF (fun _ => ⟨hotF, pos_of ct hF⟩) catF) (fun _ => gok_of (md := .nar) (g' := t.gamW .nar [] [] []) KX G.T.g cB cX ct hpb hF (fun z => by cases z) catF 3 narF) sc funF lamF k
  · have z := pos_ok (hF j f hj) q5.1.1.2 (by rw [show (f.d.dvs K).length = f.d.dfl.length from List.length_map _]; exact q5.1.2) (nodupB_ok q5.2) s₁ [.ref a] KX (by rw [hps]; rfl)
    rw [hps] at z
    exact z
end OL
set_option maxRecDepth 100000
/-! ## evaluation of the meaning by hand -/
namespace OL
open PySem
theorem callK_go {T : List FnI} {k j : Nat} {fi : FnI} {args : List PV} {st : Sto} (hT : T[j]? = some fi) (hl : args.length = fi.ps.length) (hp : pureVs args = false) :
    callK T (k + 1) j args st = endF (fi.body (callK T k) (startE fi.N.length args) st) := by
  simp only [callK, hT, hl, if_true, isoF, hp, Bool.false_eq_true, if_false]
theorem callK_iso {T : List FnI} {k j : Nat} {fi : FnI} {args : List PV} {st s : Sto} {v : PV} (hT : T[j]? = some fi) (hl : args.length = fi.ps.length) (hp : pureVs args = true) (hr : endF (fi.body (callK T k) (startE fi.N.length args) []) = .ok v s) (hv : pureV v = true) :
    callK T (k + 1) j args st = .ok v st := by
  simp only [callK, hT, hl, if_true, isoF, hp, hr, hv]
theorem callK_all {T : List FnI} {k j : Nat} {fi : FnI} {args : List PV} {st : Sto} (hT : T[j]? = some fi) (hl : args.length = fi.ps.length) :
    callK T (k + 1) j args st = isoF (pureVs args) (fun st => endF (fi.body (callK T k) (startE fi.N.length args) st)) st := by
  simp only [callK, hT, hl, if_true]
/-- a body without break -/
def NoBk (b : SD) : Prop := ∀ F e st e2 s2, b F e st ≠ .ok (.bk e2) s2
theorem NoBk.nil : NoBk sNil := fun _ _ _ _ _ h => by simp [sNil] at h
theorem NoBk.seq {a b : SD} (ha : NoBk a) (hb : NoBk b) : NoBk (sSeq a b) := fun F e st e2 s2 h => by
  simp only [sSeq] at h
  split at h
  · exact hb _ _ _ _ _ h
  · exact ha _ _ _ _ _ h
theorem at_noBk {α : Type} {r : Res α} {e : LEnv} {f : α → Sto → Res Fl} {e2 : LEnv} {s2 : Sto} (hf : ∀ a s, f a s ≠ .ok (.bk e2) s2) : r.at e f ≠ .ok (.bk e2) s2 := by
  cases r with
  | ok a s => exact hf a s
  | exc c ks xs s => intro h; simp [Res.at] at h
  | bad => intro h; simp [Res.at] at h
theorem NoBk.ex {a : D PV} : NoBk (sEx a) := fun F e st e2 s2 => at_noBk fun _ _ h => by simp at h
theorem NoBk.asg {a : D PV} {g : G} : NoBk (sAsg a g) := fun F e st e2 s2 => at_noBk fun _ _ => at_noBk fun _ _ h => by simp at h
theorem NoBk.ret {a : D PV} : NoBk (sRet a) := fun F e st e2 s2 => at_noBk fun _ _ h => by simp at h
theorem NoBk.ite {t : D Bool} {a b : SD} (ha : NoBk a) (hb : NoBk b) : NoBk (sIf t a b) := fun F e st e2 s2 => at_noBk fun c s => by
  cases c
  · exact hb _ _ _ _ _
  · exact ha _ _ _ _ _
theorem forSeq_noBk {g : G} {b : SD} : ∀ ys, NoBk (forSeq g b ys)
  | [] => NoBk.nil
  | y :: ys => fun F e st e2 s2 => at_noBk fun e1 s1 h => by
    split at h
    · exact forSeq_noBk ys _ _ _ _ _ h
    · exact forSeq_noBk ys _ _ _ _ _ h
    · simp at h
    · next r h1 h2 h3 => exact h3 _ _ h
theorem forCell_noBk {g : G} {b : SD} {n : Nat} : ∀ k i, NoBk (forCell g b n k i)
  | 0, i => fun F e st e2 s2 h => by
    simp only [forCell] at h
    split at h
    · split at h <;> simp at h
    · simp at h
  | k + 1, i => fun F e st e2 s2 h => by
    simp only [forCell] at h
    split at h
    · split at h
      · simp at h
      · refine at_noBk (fun e1 s1 h => ?_) h
        split at h
        · exact forCell_noBk k _ _ _ _ _ _ h
        · exact forCell_noBk k _ _ _ _ _ _ h
        · simp at h
        · next r h1 h2 h3 => exact h3 _ _ h
    · simp at h
theorem NoBk.for_ {m : D Src} {g : G} {b : SD} : NoBk (sFor m g b) := fun F e st e2 s2 => at_noBk fun y s => by
  cases y with
  | seq ys => exact forSeq_noBk ys _ _ _ _ _
  | cell n k => exact forCell_noBk k 0 _ _ _ _ _
/-- the turns over two rows -/
theorem forSeq_app {g : G} {b : SD} (nb : NoBk b) {F : CallT} : ∀ {xs ys : List PV} {e e1 : LEnv} {st s1 : Sto}, forSeq g b xs F e st = .ok (.nx e1) s1 → forSeq g b (xs ++ ys) F e st = forSeq g b ys F e1 s1
  | [], ys, e, e1, st, s1, h => by
    simp only [forSeq, sNil, Res.ok.injEq, Fl.nx.injEq] at h
    obtain ⟨h1, h2⟩ := h
    subst h1; subst h2
    rfl
  | x :: xs, ys, e, e1, st, s1, h => by
    simp only [forSeq, List.cons_append] at h ⊢
    cases hg : g x F e st with
    | ok e2 s2 =>
      simp only [hg, Res.at] at h ⊢
      cases hb : b F e2 s2 with
      | ok f s3 =>
        rw [hb] at h
        cases f with
        | nx e3 => exact forSeq_app nb h
        | ct e3 => exact forSeq_app nb h
        | bk e3 => exact absurd hb (nb _ _ _ _ _)
        | rt v => simp at h
        | ex c ks xs e => simp at h
      | exc c ks xs s => rw [hb] at h; simp at h
      | bad => rw [hb] at h; simp at h
    | exc c ks xs s => simp [hg, Res.at] at h
    | bad => simp [hg, Res.at] at h

/-! ### equations for rewriting, scrutinee first -/
/-- a continuation is not looked into before its turn -/
inductive Tag {α : Type} : α → Type where
  | mk (a : α) : Tag a
section
variable {α β : Type} {F : CallT} {e : LEnv} {st : Sto}
def Res.bndK (r : Res α) (f : α → Sto → Res β) (_ : Tag f := .mk f) : Res β := r.bnd f
def Res.atK (r : Res α) (e : LEnv) (f : α → Sto → Res Fl) (_ : Tag f := .mk f) : Res Fl := r.at e f
def Res.nxt (r : Res Fl) (f : LEnv → Sto → Res Fl) (_ : Tag f := .mk f) : Res Fl := match r with
  | .ok (.nx e1) s1 => f e1 s1
  | r => r
/-- behind a turn -/
def Res.trn (r : Res Fl) (f : LEnv → Sto → Res Fl) (_ : Tag f := .mk f) : Res Fl := match r with
  | .ok (.nx e2) s2 => f e2 s2
  | .ok (.ct e2) s2 => f e2 s2
  | .ok (.bk e2) s2 => .ok (.nx e2) s2
  | r => r
theorem bnd_ok {a : α} {s : Sto} {f : α → Sto → Res β} {t : Tag f} : (Res.ok a s).bndK f t = f a s := (rfl)
theorem bnd_exc {c ks xs} {s : Sto} {f : α → Sto → Res β} {t : Tag f} : (Res.exc c ks xs s : Res α).bndK f t = .exc c ks xs s := (rfl)
theorem bnd_bad {f : α → Sto → Res β} {t : Tag f} : (Res.bad : Res α).bndK f t = .bad := (rfl)
theorem at_ok {a : α} {s : Sto} {f : α → Sto → Res Fl} {t : Tag f} : (Res.ok a s).atK e f t = f a s := (rfl)
theorem at_exc {c ks xs} {s : Sto} {f : α → Sto → Res Fl} {t : Tag f} : (Res.exc c ks xs s : Res α).atK e f t = .ok (.ex c ks xs e) s := (rfl)
theorem at_bad {f : α → Sto → Res Fl} {t : Tag f} : (Res.bad : Res α).atK e f t = .bad := (rfl)
theorem nxt_nx {e1 : LEnv} {s : Sto} {f : LEnv → Sto → Res Fl} {t : Tag f} : (Res.ok (.nx e1) s).nxt f t = f e1 s := (rfl)
theorem nxt_rt {v : PV} {s : Sto} {f : LEnv → Sto → Res Fl} {t : Tag f} : (Res.ok (.rt v) s).nxt f t = .ok (.rt v) s := (rfl)
theorem nxt_ex {c ks xs e1} {s : Sto} {f : LEnv → Sto → Res Fl} {t : Tag f} : (Res.ok (.ex c ks xs e1) s).nxt f t = .ok (.ex c ks xs e1) s := (rfl)
theorem nxt_bk {e1 : LEnv} {s : Sto} {f : LEnv → Sto → Res Fl} {t : Tag f} : (Res.ok (.bk e1) s).nxt f t = .ok (.bk e1) s := (rfl)
theorem nxt_ct {e1 : LEnv} {s : Sto} {f : LEnv → Sto → Res Fl} {t : Tag f} : (Res.ok (.ct e1) s).nxt f t = .ok (.ct e1) s := (rfl)
theorem nxt_bad {f : LEnv → Sto → Res Fl} {t : Tag f} : (Res.bad : Res Fl).nxt f t = .bad := (rfl)
theorem trn_nx {e1 : LEnv} {s : Sto} {f : LEnv → Sto → Res Fl} {t : Tag f} : (Res.ok (.nx e1) s).trn f t = f e1 s := (rfl)
theorem trn_ct {e1 : LEnv} {s : Sto} {f : LEnv → Sto → Res Fl} {t : Tag f} : (Res.ok (.ct e1) s).trn f t = f e1 s := (rfl)
theorem trn_bk {e1 : LEnv} {s : Sto} {f : LEnv → Sto → Res Fl} {t : Tag f} : (Res.ok (.bk e1) s).trn f t = .ok (.nx e1) s := (rfl)
theorem trn_rt {v : PV} {s : Sto} {f : LEnv → Sto → Res Fl} {t : Tag f} : (Res.ok (.rt v) s).trn f t = .ok (.rt v) s := (rfl)
theorem trn_ex {c ks xs e1} {s : Sto} {f : LEnv → Sto → Res Fl} {t : Tag f} : (Res.ok (.ex c ks xs e1) s).trn f t = .ok (.ex c ks xs e1) s := (rfl)
theorem endF_rt {v : PV} {s : Sto} : endF (.ok (.rt v) s) = .ok v s := (rfl)
theorem endF_nx {s : Sto} : endF (.ok (.nx e) s) = .ok .non s := (rfl)
theorem endF_ex {c ks xs} {s : Sto} : endF (.ok (.ex c ks xs e) s) = .exc c ks xs s := (rfl)
/-- options, scrutinee first -/
def optR (o : Option α) (f : α → Res β) (_ : Tag f := .mk f) : Res β := match o with
  | some a => f a
  | none => .bad
theorem optR_some {a : α} {f : α → Res β} {t : Tag f} : optR (some a) f t = f a := (rfl)
/-! expressions -/
def getV (o : Option (Option PV)) (st : Sto) : Res PV := match o with
  | some (some v) => .ok v st
  | _ => .bad
theorem getV_some {v : PV} : getV (some (some v)) st = .ok v st := (rfl)
theorem q_V {i : Nat} : dV i F e st = getV e[i]? st := by
  simp only [dV, getV]
  all_goals (split <;> simp_all)
theorem q_K {v : PV} : dK v F e st = .ok v st := (rfl)
theorem q_1 {o : Op1} {a : D PV} : d1 o a F e st = (a F e st).bndK o := (rfl)
theorem q_2 {o : Op2} {a b : D PV} : d2 o a b F e st = (a F e st).bndK fun x s1 => (b F e s1).bndK fun y s2 => o x y s2 := (rfl)
theorem q_nil : dArgs [] F e st = .ok [] st := (rfl)
theorem q_cons {a : D PV} {r : List (D PV)} : dArgs (a :: r) F e st = (a F e st).bndK fun x s1 => (dArgs r F e s1).bndK fun xs s2 => .ok (x :: xs) s2 := (rfl)
theorem q_N {o : OpN} {as : List (D PV)} : dN o as F e st = (dArgs as F e st).bndK o := (rfl)
theorem q_tup {as : List (D PV)} : dTup as F e st = (dArgs as F e st).bndK fun xs s => if xs.length ≤ 16777216 then .ok (.tup xs) s else .bad := (rfl)
theorem q_lst {mt : Bool} {as : List (D PV)} : dLst mt as F e st = (dArgs as F e st).bndK fun xs s => if xs.length ≤ 16777216 then newL mt xs s else .bad := (rfl)
theorem q_newT {xs : List PV} : newL true xs st = .ok (.obj st.length) (st ++ [.lst xs]) := (rfl)
theorem q_newF {xs : List PV} : newL false xs st = .ok (.lv xs) st := (rfl)
theorem q_ifE {t : D Bool} {a b : D PV} : tIfE t a b F e st = (t F e st).bndK fun c s => if c then a F e s else b F e s := (rfl)
theorem q_and {a b : D Bool} : tAndT a b F e st = (a F e st).bndK fun c s => if c then b F e s else .ok false s := (rfl)
theorem q_or {a b : D Bool} : tOrT a b F e st = (a F e st).bndK fun c s => if c then .ok true s else b F e s := (rfl)
theorem q_not {a : D Bool} : tNotT a F e st = (a F e st).bndK fun c s => .ok (!c) s := (rfl)
def blR (x : PV) (s : Sto) : Res Bool := match x with
  | .bl b => .ok b s
  | _ => .bad
theorem blR_bl {b : Bool} : blR (.bl b) st = .ok b st := (rfl)
theorem q_bl {a : D PV} : tBl a F e st = (a F e st).bndK blR := (rfl)
theorem q_val {a : D PV} : tVal a F e st = (a F e st).bndK fun x s => optR (truth s x) fun b => .ok b s := by
  simp only [tVal, optR]
  cases a F e st with
  | ok x s => simp only [Res.bndK, Res.bnd]; cases truth s x <;> rfl
  | exc => rfl
  | bad => rfl
def lgc (t : Bool) (x : PV) (r : Sto → Res PV) (s : Sto) (o : Option Bool) : Res PV := match o with
  | some b => if b = t then r s else .ok x s
  | none => .bad
theorem q_dAnd {a b : D PV} : dAnd a b F e st = (a F e st).bndK fun x s => optR (truth s x) fun t => if t then b F e s else .ok x s := by
  simp only [dAnd, optR]
  cases a F e st with
  | ok x s => simp only [Res.bndK, Res.bnd]; cases truth s x with
    | none => rfl
    | some t => cases t <;> rfl
  | exc => rfl
  | bad => rfl
theorem q_dOr {a b : D PV} : dOr a b F e st = (a F e st).bndK fun x s => optR (truth s x) fun t => if t then .ok x s else b F e s := by
  simp only [dOr, optR]
  cases a F e st with
  | ok x s => simp only [Res.bndK, Res.bnd]; cases truth s x with
    | none => rfl
    | some t => cases t <;> rfl
  | exc => rfl
  | bad => rfl
theorem q_dNot {a : D PV} : dNot a F e st = (a F e st).bndK fun x s => optR (truth s x) fun b => .ok (.bl (!b)) s := by
  simp only [dNot, optR]
  cases a F e st with
  | ok x s => simp only [Res.bndK, Res.bnd]; cases truth s x <;> rfl
  | exc => rfl
  | bad => rfl
theorem q_chain {o o' : Op2} {a b c : D PV} : dChain o o' a b c F e st = (a F e st).bndK fun x s1 => (b F e s1).bndK fun y s2 => (o x y s2).bndK fun z s3 => (blR z s3).bndK fun t s => if t then (c F e s).bndK fun w s4 => o' y w s4 else .ok (.bl false) s := by
  simp only [dChain]
  cases a F e st with
  | ok x s1 =>
    simp only [Res.bndK, Res.bnd]
    cases b F e s1 with
    | ok y s2 =>
      simp only
      cases o x y s2 with
      | ok z s3 => cases z <;> first | rfl | (rename_i q; cases q <;> rfl)
      | exc => rfl
      | bad => rfl
    | exc => rfl
    | bad => rfl
  | exc => rfl
  | bad => rfl
theorem q_call {j : Nat} {as : List (D PV)} : dCall j as F e st = (dArgs as F e st).bndK fun xs s => F j xs s := (rfl)
theorem q_callK {j : Nat} {as : List (D PV)} {sel : List Sel} : dCallK j as sel F e st = (dArgs as F e st).bndK fun xs s => optR (pick xs sel) fun ys => F j ys s := by
  simp only [dCallK, optR]
  cases dArgs as F e st with
  | ok x s => simp only [Res.bndK, Res.bnd]; cases pick x sel <;> rfl
  | exc => rfl
  | bad => rfl
theorem q_new {mt : Bool} {c j : Nat} {as : List (D PV)} : dNew mt c j as F e st = (dArgs as F e st).bndK fun xs s => mkIns mt c j F xs s := (rfl)
theorem q_newK {mt : Bool} {c j : Nat} {as : List (D PV)} {sel : List Sel} : dNewK mt c j as sel F e st = (dArgs as F e st).bndK fun xs s => optR (pick xs sel) fun ys => mkIns mt c j F ys s := by
  simp only [dNewK, optR]
  cases dArgs as F e st with
  | ok x s => simp only [Res.bndK, Res.bnd]; cases pick x sel <;> rfl
  | exc => rfl
  | bad => rfl
theorem q_cut {mt : Bool} {a : D PV} {lo hi : Option (D PV)} : dCut mt a lo hi F e st = (a F e st).bndK fun x s1 => (dPart lo F e s1).bndK fun l s2 => (dPart hi F e s2).bndK fun h s3 => oCut mt x l h s3 := (rfl)
def intR (x : PV) (s : Sto) : Res (Option Int) := match x with
  | .int i => .ok (some i) s
  | _ => .bad
theorem intR_int {i : Int} : intR (.int i) st = .ok (some i) st := (rfl)
theorem q_partN : dPart none F e st = .ok none st := (rfl)
theorem q_partS {a : D PV} : dPart (some a) F e st = (a F e st).bndK intR := (rfl)
theorem q_src {a : D PV} : dSrc a F e st = (a F e st).bndK fun x s => optR (srcOf s x) fun y => .ok y s := by
  simp only [dSrc, optR]
  cases a F e st with
  | ok x s => simp only [Res.bndK, Res.bnd]; cases srcOf s x <;> rfl
  | exc => rfl
  | bad => rfl
theorem q_lm {o : Op2} {a b : D PV} : dLM o a b F e st = (a F e st).bndK fun x s => optR (listOf s x) fun _ => (b F e s).bndK fun y s2 => o x y s2 := by
  simp only [dLM, optR]
  cases a F e st with
  | ok x s => simp only [Res.bndK, Res.bnd]; cases listOf s x <;> rfl
  | exc => rfl
  | bad => rfl
/-! statements -/
theorem q_sNil : sNil F e st = .ok (.nx e) st := (rfl)
theorem q_seq {a b : SD} : sSeq a b F e st = (a F e st).nxt (b F) := (rfl)
theorem q_ex {a : D PV} : sEx a F e st = (a F e st).atK e fun _ s => .ok (.nx e) s := (rfl)
theorem q_ret {a : D PV} : sRet a F e st = (a F e st).atK e fun v s => .ok (.rt v) s := (rfl)
theorem q_retN : sRetN F e st = .ok (.rt .non) st := (rfl)
theorem q_if {t : D Bool} {a b : SD} : sIf t a b F e st = (t F e st).atK e fun c s => if c then a F e s else b F e s := (rfl)
theorem q_asg {a : D PV} {g : G} : sAsg a g F e st = (a F e st).atK e fun v s => (g v F e s).atK e fun e1 s1 => .ok (.nx e1) s1 := (rfl)
theorem q_par {i j : Nat} {a b : D PV} : sPar i j a b F e st = (a F e st).atK e fun v s => (b F e s).atK e fun w s1 => .ok (.nx ((e.set i (some v)).set j (some w))) s1 := (rfl)
theorem q_par3 {i j l : Nat} {a b c : D PV} : sPar3 i j l a b c F e st = (a F e st).atK e fun v s => (b F e s).atK e fun w s1 => (c F e s1).atK e fun z s2 => .ok (.nx (((e.set i (some v)).set j (some w)).set l (some z))) s2 := (rfl)
theorem q_sub {o y a : D PV} : sSub o y a F e st = (a F e st).atK e fun v s => (o F e s).atK e fun x s1 => (y F e s1).atK e fun k s2 => (oPut x k v s2).atK e fun _ s3 => .ok (.nx e) s3 := (rfl)
theorem q_gNm {i : Nat} {v : PV} : gNm i v F e st = .ok (e.set i (some v)) st := (rfl)
def forR (g : G) (b : SD) (y : Src) (F : CallT) (e : LEnv) (s : Sto) : Res Fl := match y with
  | .seq ys => forSeq g b ys F e s
  | .cell n k => forCell g b n k 0 F e s
theorem q_for {m : D Src} {g : G} {b : SD} : sFor m g b F e st = (m F e st).atK e fun y s => forR g b y F e s := by
  simp only [sFor, forR]
  cases m F e st with
  | ok y s => cases y <;> rfl
  | exc => rfl
  | bad => rfl
theorem forR_seq {g : G} {b : SD} {ys : List PV} : forR g b (.seq ys) F e st = forSeq g b ys F e st := (rfl)
theorem forR_cell {g : G} {b : SD} {n k : Nat} : forR g b (.cell n k) F e st = forCell g b n k 0 F e st := (rfl)
theorem forSeq_nil {g : G} {b : SD} : forSeq g b [] F e st = .ok (.nx e) st := (rfl)
theorem forSeq_cons {g : G} {b : SD} {y : PV} {ys : List PV} : forSeq g b (y :: ys) F e st = (g y F e st).atK e fun e1 s1 => (b F e1 s1).trn (forSeq g b ys F) := (rfl)
theorem forCell_end {g : G} {b : SD} {n k i : Nat} {xs : List PV} (h : st[n]? = some (.lst xs)) (hi : xs.length ≤ i) : forCell g b n k i F e st = .ok (.nx e) st := by
  cases k with
  | zero => simp only [forCell, h, if_pos hi]
  | succ k => simp only [forCell, h, List.getElem?_eq_none hi]
theorem forCell_step {g : G} {b : SD} {n k i : Nat} {xs : List PV} {y : PV} (h : st[n]? = some (.lst xs)) (hi : xs[i]? = some y) : forCell g b n (k + 1) i F e st = (g y F e st).atK e fun e1 s1 => (b F e1 s1).trn (forCell g b n k (i + 1) F) := by
  simp only [forCell, h, hi]; rfl
/-! comprehensions -/
def compR (g : G) (t : D Bool) (m : D PV) (y : Src) (F : CallT) (e : LEnv) (s : Sto) : Res (List PV) := match y with
  | .seq ys => compSeq g t m ys F e s
  | .cell n k => compCell g t m n k 0 F e s
theorem q_comp {mt : Bool} {src : D Src} {vs : List Nat} {c : CTg} {t : D Bool} {m : D PV} : dComp mt src vs c t m F e st = (src F e st).bndK fun y s => (compR (cG c) t m y F (wipeE e vs) s).bndK fun zs s1 => if zs.length ≤ 16777216 then newL mt zs s1 else .bad := by
  simp only [dComp, compR]
  cases src F e st with
  | ok y s => cases y <;> rfl
  | exc => rfl
  | bad => rfl
theorem compR_seq {g : G} {t : D Bool} {m : D PV} {ys : List PV} : compR g t m (.seq ys) F e st = compSeq g t m ys F e st := (rfl)
theorem compR_cell {g : G} {t : D Bool} {m : D PV} {n k : Nat} : compR g t m (.cell n k) F e st = compCell g t m n k 0 F e st := (rfl)
theorem compSeq_nil {g : G} {t : D Bool} {m : D PV} : compSeq g t m [] F e st = .ok [] st := (rfl)
theorem compSeq_cons {g : G} {t : D Bool} {m : D PV} {y : PV} {ys : List PV} : compSeq g t m (y :: ys) F e st = (noX (g y F e st)).bndK fun e1 s1 => (noX (t F e1 s1)).bndK fun c s2 =>
    if c then (noX (m F e1 s2)).bndK fun z s3 => (compSeq g t m ys F e s3).bndK fun zs s4 => .ok (z :: zs) s4
    else compSeq g t m ys F e s2 := (rfl)
theorem compCell_end {g : G} {t : D Bool} {m : D PV} {n k i : Nat} {xs : List PV} (h : st[n]? = some (.lst xs)) (hi : xs.length ≤ i) : compCell g t m n k i F e st = .ok [] st := by
  cases k with
  | zero => simp only [compCell, h, if_pos hi]
  | succ k => simp only [compCell, h, List.getElem?_eq_none hi]
/-- a comprehension over a row, told by a function -/
theorem compSeq_fm {g : G} {t : D Bool} {m : D PV} (f : PV → Option PV) : ∀ {ys : List PV}, (∀ y ∈ ys, ∃ e1, g y F e st = .ok e1 st ∧ ((t F e1 st = .ok false st ∧ f y = none) ∨ ∃ z, t F e1 st = .ok true st ∧ m F e1 st = .ok z st ∧ f y = some z)) →
    compSeq g t m ys F e st = .ok (ys.filterMap f) st
  | [], _ => rfl
  | y :: ys, h => by
    obtain ⟨e1, hg, h1⟩ := h y (List.mem_cons_self ..)
    have ih := compSeq_fm (g := g) (t := t) (m := m) f (ys := ys) fun y hy => h y (List.mem_cons_of_mem _ hy)
    rcases h1 with ⟨ht, hf⟩ | ⟨z, ht, hm, hf⟩
    · simp only [compSeq, hg, noX, Res.bnd, ht, ↓reduceIte, Bool.false_eq_true, ih, List.filterMap_cons, hf]
    · simp only [compSeq, hg, noX, Res.bnd, ht, ↓reduceIte, hm, ih, List.filterMap_cons, hf]
/-- .. over a cell -/
theorem compCell_fm {g : G} {t : D Bool} {m : D PV} (f : PV → Option PV) {n : Nat} {xs : List PV} (hx : st[n]? = some (.lst xs)) : ∀ {k i : Nat}, xs.length ≤ k + i → (∀ y ∈ xs.drop i, ∃ e1, g y F e st = .ok e1 st ∧ ((t F e1 st = .ok false st ∧ f y = none) ∨ ∃ z, t F e1 st = .ok true st ∧ m F e1 st = .ok z st ∧ f y = some z)) →
    compCell g t m n k i F e st = .ok ((xs.drop i).filterMap f) st
  | 0, i, hl, _ => by rw [compCell_end hx (by omega), List.drop_eq_nil_of_le (by omega)]; rfl
  | k + 1, i, hl, h => by
    by_cases hi : i < xs.length
    · rw [List.drop_eq_getElem_cons hi] at h ⊢
      obtain ⟨e1, hg, h1⟩ := h _ (List.mem_cons_self ..)
      have ih := compCell_fm (g := g) (t := t) (m := m) f hx (k := k) (i := i + 1) (by omega) fun y hy => h y (List.mem_cons_of_mem _ hy)
      have hy : xs[i]? = some xs[i] := List.getElem?_eq_getElem hi
      rcases h1 with ⟨ht, hf⟩ | ⟨z, ht, hm, hf⟩
      · simp only [compCell, hx, hy, hg, noX, Res.bnd, ht, ↓reduceIte, Bool.false_eq_true, ih, List.filterMap_cons, hf]
      · simp only [compCell, hx, hy, hg, noX, Res.bnd, ht, ↓reduceIte, hm, ih, List.filterMap_cons, hf]
    · rw [compCell_end hx (by omega), List.drop_eq_nil_of_le (by omega)]; rfl
/-! operations -/
theorem r_addI {i j : Int} : oAdd (.int i) (.int j) st = .ok (.int (i + j)) st := (rfl)
theorem r_addS {a b : Str} : oAdd (.str a) (.str b) st = if a.length + b.length ≤ 16777216 then .ok (.str (a ++ b)) st else .bad := (rfl)
theorem r_addT {xs ys : List PV} : oAdd (.tup xs) (.tup ys) st = if xs.length + ys.length ≤ 16777216 then .ok (.tup (xs ++ ys)) st else .bad := (rfl)
theorem r_addL {xs ys : List PV} : oAdd (.lv xs) (.lv ys) st = if xs.length + ys.length ≤ 16777216 then .ok (.lv (xs ++ ys)) st else .bad := (rfl)
theorem r_subI {i j : Int} : oSub (.int i) (.int j) st = .ok (.int (i - j)) st := (rfl)
theorem r_mulI {i j : Int} : oMul (.int i) (.int j) st = if small i || small j then .ok (.int (i * j)) st else .bad := (rfl)
theorem r_divI {i j : Int} : oFdiv (.int i) (.int j) st = if 0 < j ∧ j < 1073741824 then .ok (.int (i / j)) st else .bad := (rfl)
theorem r_modI {i j : Int} : oMod (.int i) (.int j) st = if 0 < j then .ok (.int (i % j)) st else .bad := (rfl)
theorem r_eqI {i j : Int} : oEq (.int i) (.int j) st = .ok (.bl (decide (i = j))) st := (rfl)
theorem r_neI {i j : Int} : oNe (.int i) (.int j) st = .ok (.bl (!decide (i = j))) st := (rfl)
theorem r_eqS {a b : Str} : oEq (.str a) (.str b) st = .ok (.bl (decide (a = b))) st := (rfl)
theorem r_neS {a b : Str} : oNe (.str a) (.str b) st = .ok (.bl (!decide (a = b))) st := (rfl)
theorem r_ltI {i j : Int} : oLt (.int i) (.int j) st = .ok (.bl (decide (i < j))) st := (rfl)
theorem r_leI {i j : Int} : oLe (.int i) (.int j) st = .ok (.bl (decide (i ≤ j))) st := (rfl)
theorem r_gtI {i j : Int} : oGt (.int i) (.int j) st = .ok (.bl (decide (j < i))) st := (rfl)
theorem r_geI {i j : Int} : oGe (.int i) (.int j) st = .ok (.bl (decide (j ≤ i))) st := (rfl)
theorem r_ixO {n : Nat} {i : Int} {xs : List PV} {v : PV} (h : st[n]? = some (.lst xs)) (hv : L2.atI xs i = some v) : oIx (.obj n) (.int i) st = .ok v st := by
  simp only [oIx, seqOf, h, hv]
theorem r_ixT {i : Int} {xs : List PV} : oIx (.tup xs) (.int i) st = optR (L2.atI xs i) fun v => .ok v st := by
  simp only [oIx, seqOf, optR]
  cases L2.atI xs i <;> rfl
theorem r_ixL {i : Int} {xs : List PV} : oIx (.lv xs) (.int i) st = optR (L2.atI xs i) fun v => .ok v st := by
  simp only [oIx, seqOf, optR]
  cases L2.atI xs i <;> rfl
theorem r_ixF {i : Int} {xs : List PV} : oIx (.fl xs) (.int i) st = optR (L2.atI xs i) fun v => .ok v st := by
  simp only [oIx, seqOf, optR]
  cases L2.atI xs i <;> rfl
theorem srcO {n : Nat} {xs : List PV} (h : st[n]? = some (.lst xs)) : srcOf st (.obj n) = some (.cell n xs.length) := by simp only [srcOf, h]
theorem srcT {xs : List PV} : srcOf st (.tup xs) = some (.seq xs) := (rfl)
theorem srcL {xs : List PV} : srcOf st (.lv xs) = some (.seq xs) := (rfl)
theorem srcF {xs : List PV} : srcOf st (.fl xs) = some (.seq xs) := (rfl)
theorem lsO {n : Nat} {xs : List PV} (h : st[n]? = some (.lst xs)) : listOf st (.obj n) = some xs := by simp only [listOf, h]
theorem r_frz {n : Nat} {xs : List PV} (h : st[n]? = some (.lst xs)) : oFrz (.obj n) st = .ok (.lv xs) (st.set n .dead) := by simp only [oFrz, h]
theorem r_put {n : Nat} {k : Int} {j : Nat} {xs : List PV} {v : PV} (h : st[n]? = some (.lst xs)) (hj : L2.ixN xs.length k = some j) : oPut (.obj n) (.int k) v st = .ok () (st.set n (.lst (xs.set j v))) := by
  simp only [oPut, isDict, h, Bool.false_eq_true, if_false, oSet, hj]
theorem tr_bl {b : Bool} : truth st (.bl b) = some b := (rfl)
theorem tr_int {i : Int} : truth st (.int i) = some (i != 0) := (rfl)
def rngR (x : PV) (s : Sto) : Res Src := match x with
  | .int n => if -(2 ^ 62) ≤ n ∧ n < 2 ^ 62 then .ok (.seq (intsFrom 0 n.toNat)) s else .bad
  | _ => .bad
theorem q_rng1 {a : D PV} : dRng1 a F e st = (a F e st).bndK rngR := (rfl)
theorem rngR_nat {n : Nat} (h : n < 1000000) : rngR (.int (n : Nat)) st = .ok (.seq (intsFrom 0 n)) st := by
  have hb : -(2 ^ 62) ≤ ((n : Nat) : Int) ∧ ((n : Nat) : Int) < 2 ^ 62 := by constructor <;> omega
  simp only [rngR, if_pos hb, Int.toNat_natCast]
theorem r_int {i : Int} : bInt [.int i] st = .ok (.int i) st := (rfl)
theorem r_intB {b : Bool} : bInt [.bl b] st = .ok (.int (if b then 1 else 0)) st := (rfl)
theorem r_abs {i : Int} : bAbs [.int i] st = .ok (.int (if i < 0 then -i else i)) st := (rfl)
theorem r_max {i j : Int} : bMax [.int i, .int j] st = .ok (.int (if j > i then j else i)) st := (rfl)
theorem r_min {i j : Int} : bMin [.int i, .int j] st = .ok (.int (if j < i then j else i)) st := (rfl)
theorem r_divmod {i j : Int} : bDivmod [.int i, .int j] st = if 0 < j ∧ j < 1073741824 then .ok (.tup [.int (i / j), .int (i % j)]) st else .bad := (rfl)
theorem r_lenL {xs : List PV} : bLen [.lv xs] st = .ok (.int xs.length) st := (rfl)
theorem r_lenT {xs : List PV} : bLen [.tup xs] st = .ok (.int xs.length) st := (rfl)
theorem r_lenF {xs : List PV} : bLen [.fl xs] st = .ok (.int xs.length) st := (rfl)
theorem gTp2 {g1 g2 : G} {x y : PV} {e1 e2 : LEnv} {s1 s2 : Sto} (h1 : g1 x F e st = .ok e1 s1) (h2 : g2 y F e1 s1 = .ok e2 s2) : gTp [g1, g2] (.tup [x, y]) F e st = .ok e2 s2 := by
  simp only [gTp, gEach, h1, h2, Res.bnd, List.length_cons, List.length_nil, if_true]
theorem gTp3 {g1 g2 g3 : G} {x y z : PV} {e1 e2 e3 : LEnv} {s1 s2 s3 : Sto} (h1 : g1 x F e st = .ok e1 s1) (h2 : g2 y F e1 s1 = .ok e2 s2) (h3 : g3 z F e2 s2 = .ok e3 s3) : gTp [g1, g2, g3] (.tup [x, y, z]) F e st = .ok e3 s3 := by
  simp only [gTp, gEach, h1, h2, h3, Res.bnd, List.length_cons, List.length_nil, if_true]
theorem noX_ok {a : α} : noX (.ok a st) = .ok a st := (rfl)
theorem q_gTp2 {g1 g2 : G} {x y : PV} : gTp [g1, g2] (.tup [x, y]) F e st = noX ((g1 x F e st).bndK fun e1 s1 => g2 y F e1 s1) := by
  simp only [gTp, gEach, List.length_cons, List.length_nil, if_true, noX]
  cases g1 x F e st with
  | ok e1 s1 => simp only [Res.bndK, Res.bnd]; cases g2 y F e1 s1 <;> rfl
  | exc => rfl
  | bad => rfl
theorem q_gTp3 {g1 g2 g3 : G} {x y z : PV} : gTp [g1, g2, g3] (.tup [x, y, z]) F e st = noX ((g1 x F e st).bndK fun e1 s1 => (g2 y F e1 s1).bndK fun e2 s2 => g3 z F e2 s2) := by
  simp only [gTp, gEach, List.length_cons, List.length_nil, if_true, noX]
  cases g1 x F e st with
  | ok e1 s1 =>
    simp only [Res.bndK, Res.bnd]
    cases g2 y F e1 s1 with
    | ok e2 s2 => simp only; cases g3 z F e2 s2 <;> rfl
    | exc => rfl
    | bad => rfl
  | exc => rfl
  | bad => rfl
theorem q_gTq2 {g1 g2 : G} {x y : PV} : gTq [g1, g2] (.tup [x, y]) F e st = noX ((g1 x F e st).bndK fun e1 s1 => g2 y F e1 s1) := @q_gTp2 _ _ _ _ _ _ _
theorem q_gTq3 {g1 g2 g3 : G} {x y z : PV} : gTq [g1, g2, g3] (.tup [x, y, z]) F e st = noX ((g1 x F e st).bndK fun e1 s1 => (g2 y F e1 s1).bndK fun e2 s2 => g3 z F e2 s2) := @q_gTp3 _ _ _ _ _ _ _ _ _
theorem q_gSb {o i : D PV} {v : PV} : gSb o i v F e st = (o F e st).bndK fun x s1 => (i F e s1).bndK fun y s2 => (oSet x y v s2).bndK fun _ s3 => .ok e s3 := (rfl)
theorem r_set {n : Nat} {k : Int} {j : Nat} {xs : List PV} {v : PV} (h : st[n]? = some (.lst xs)) (hj : L2.ixN xs.length k = some j) : oSet (.obj n) (.int k) v st = .ok () (st.set n (.lst (xs.set j v))) := by
  simp only [oSet, h, hj]
def setR (b : Tb) (k : Nat) (x v : PV) (e : LEnv) (s1 : Sto) : Res Fl := match clsOf s1 x with
  | some c => if b.fl c k then (oSetA x k v s1).at e fun _ s2 => .ok (.nx e) s2 else .bad
  | none => .bad
theorem q_setAt {b : Tb} {o a : D PV} {k : Nat} : sSetAt b o k a F e st = (a F e st).atK e fun v s => (o F e s).atK e fun x s1 => setR b k x v e s1 := (rfl)
theorem setR_ok {b : Tb} {k m c : Nat} {v : PV} {ks ks' : List Nat} {xs xs' : List PV} (h : st[m]? = some (.ins c ks xs)) (hf : b.fl c k = true) (hp : putA k v ks xs = some (ks', xs')) (hl : ks.length < 1000) :
    setR b k (.obj m) v e st = .ok (.nx e) (st.set m (.ins c ks' xs')) := by
  simp only [setR, clsOf, h, hf, if_true, oSetA, hp, if_pos hl, Res.at]
theorem q_attr {b : Tb} {k c : Nat} {o : D PV} {ks : List Nat} {xs : List PV} {v : PV} {s : Sto} (ho : o F e st = .ok (.iv c ks xs) s) (hf : b.fl c k = true) (hg : getA k ks xs = some v) : dAttr b k o F e st = .ok v s := by
  simp only [dAttr, ho, Res.bnd, attX, clsOf, hf, if_true, oGetA, hg]
theorem r_cutL {xs : List PV} {mt : Bool} {lo hi : Option Int} : oCut mt (.lv xs) lo hi st = newL mt (cutL xs lo hi) st := (rfl)
theorem r_cutF {xs : List PV} {mt : Bool} {lo hi : Option Int} : oCut mt (.fl xs) lo hi st = newL mt (cutL xs lo hi) st := (rfl)
theorem r_cutT {xs : List PV} {mt : Bool} {lo hi : Option Int} : oCut mt (.tup xs) lo hi st = .ok (.tup (cutL xs lo hi)) st := (rfl)
theorem r_isN : oIs .non .non st = .ok (.bl true) st := (rfl)
theorem r_isI {i : Int} : oIs (.int i) .non st = .ok (.bl false) st := (rfl)
/-- a comprehension without a test whose elements all are true -/
theorem compSeq_tt {g : G} {m : D PV} (P : Sto → Prop) {z : PV} (hm : ∀ y s, P s → ∃ e1 s', g y F e s = .ok e1 s ∧ m F e1 s = .ok z s' ∧ P s') : ∀ (ys : List PV) (s : Sto), P s → ∃ s', compSeq g tYesT m ys F e s = .ok (List.replicate ys.length z) s' ∧ P s'
  | [], s, h => ⟨s, rfl, h⟩
  | y :: ys, s, h => by
    obtain ⟨e1, s1, h1, h2, h3⟩ := hm y s h
    obtain ⟨s2, h4, h5⟩ := compSeq_tt P hm ys s1 h3
    refine ⟨s2, ?_, h5⟩
    simp only [compSeq, h1, noX, Res.bnd, tYesT, ↓reduceIte, h2, h4, List.length_cons, List.replicate_succ]
theorem allBl_tt : ∀ n, allBl (List.replicate n (.bl true)) = some (List.replicate n true)
  | 0 => rfl
  | n + 1 => by simp only [List.replicate_succ, allBl, allBl_tt n, Option.map_some]
theorem r_allT {n : Nat} : bAll [.lv (List.replicate n (.bl true))] st = .ok (.bl true) st := by
  simp only [bAll, listOf, Option.bind_some, allBl_tt]
  have : (List.replicate n true).all id = true := by simp [List.all_replicate]
  rw [this]
theorem sqO {n : Nat} {xs : List PV} (h : st[n]? = some (.lst xs)) : seqOf st (.obj n) = some xs := by simp only [seqOf, h]
theorem sqL {xs : List PV} : seqOf st (.lv xs) = some xs := (rfl)
theorem sqT {xs : List PV} : seqOf st (.tup xs) = some xs := (rfl)
theorem r_list {mt : Bool} {x : PV} : bList mt [x] st = optR (seqOf st x) fun xs => newL mt xs st := by
  simp only [bList, optR]
  cases seqOf st x <;> rfl
theorem r_inN {a : Str} : oIn (.str a) (.lv []) st = .ok (.bl false) st := (rfl)
theorem r_eqN : oEq (.lv []) (.lv []) st = .ok (.bl true) st := (rfl)
theorem app_get {st l : Sto} {n : Nat} {c : Cell} (h : st[n]? = some c) : (st ++ l)[n]? = some c := by
  rw [List.getElem?_append_left (List.getElem?_eq_some_iff.mp h).1]; exact h
theorem set_get {st : Sto} {n m : Nat} {c d : Cell} (h : st[n]? = some c) (e : m ≠ n) : (st.set m d)[n]? = some c := by
  rw [List.getElem?_set_ne e]; exact h
theorem set_at {st : Sto} {n : Nat} {c d : Cell} (h : st[n]? = some c) : (st.set n d)[n]? = some d := List.getElem?_set_self (List.getElem?_eq_some_iff.mp h).1
theorem app_at {st : Sto} {c : Cell} : (st ++ [c])[st.length]? = some c := by simp
end
end OL
set_option maxRecDepth 100000
/-! ## weakest preconditions over the meaning -/
namespace OL
open PySem
abbrev XP := Nat → List Nat → List PV → Sto → Prop
def WP {α : Type} (r : Res α) (Q : α → Sto → Prop) (X : XP) : Prop := match r with
  | .ok a s => Q a s
  | .exc c ks xs s => X c ks xs s
  | .bad => False
abbrev NX : XP := fun _ _ _ _ => False
section
variable {α β : Type} {F : CallT} {e : LEnv} {st : Sto} {X X' : XP}
theorem wp_ok {a : α} {s : Sto} {Q : α → Sto → Prop} : WP (.ok a s) Q X = Q a s := (rfl)
theorem wp_exc {c ks xs} {s : Sto} {Q : α → Sto → Prop} : WP (.exc c ks xs s) Q X = X c ks xs s := (rfl)
theorem WP.mono {r : Res α} {Q Q' : α → Sto → Prop} (h : WP r Q X) (k : ∀ a s, Q a s → Q' a s) (kx : ∀ c ks xs s, X c ks xs s → X' c ks xs s) : WP r Q' X' := by
  cases r with
  | ok a s => exact k a s h
  | exc c ks xs s => exact kx c ks xs s h
  | bad => exact h
theorem WP.to {r : Res α} {Q Q' : α → Sto → Prop} (h : WP r Q NX) (k : ∀ a s, Q a s → Q' a s) : WP r Q' X' := h.mono k fun _ _ _ _ z => z.elim
theorem WP.get {r : Res α} {Q : α → Sto → Prop} (h : WP r Q NX) : ∃ a s, r = .ok a s ∧ Q a s := by
  cases r with
  | ok a s => exact ⟨a, s, rfl, h⟩
  | exc c ks xs s => exact h.elim
  | bad => exact h.elim
theorem WP.of {r : Res α} {a : α} {s : Sto} {Q : α → Sto → Prop} (h : r = .ok a s) (q : Q a s) : WP r Q X := by rw [h]; exact q
theorem WP.ofX {r : Res α} {c ks xs} {s : Sto} {Q : α → Sto → Prop} (h : r = .exc c ks xs s) (q : X c ks xs s) : WP r Q X := by rw [h]; exact q
theorem wp_bnd {r : Res α} {f : α → Sto → Res β} {t : Tag f} {Q : β → Sto → Prop} (h : WP r (fun a s => WP (f a s) Q X) X) : WP (r.bndK f t) Q X := by
  cases r with
  | ok a s => exact h
  | exc c ks xs s => exact h
  | bad => exact h
theorem wp_at {r : Res α} {f : α → Sto → Res Fl} {t : Tag f} {Q : Fl → Sto → Prop} (h : WP r (fun a s => WP (f a s) Q X) fun c ks xs s => Q (.ex c ks xs e) s) : WP (r.atK e f t) Q X := by
  cases r with
  | ok a s => exact h
  | exc c ks xs s => exact h
  | bad => exact h
/-- what follows a statement -/
def nxQ (g : LEnv → Sto → Prop) (Q : Fl → Sto → Prop) : Fl → Sto → Prop := fun fl s => match fl with
  | .nx e1 => g e1 s
  | fl => Q fl s
theorem nxQ_nx {g : LEnv → Sto → Prop} {Q : Fl → Sto → Prop} {s : Sto} : nxQ g Q (.nx e) s = g e s := (rfl)
theorem nxQ_rt {g : LEnv → Sto → Prop} {Q : Fl → Sto → Prop} {s : Sto} {v : PV} : nxQ g Q (.rt v) s = Q (.rt v) s := (rfl)
theorem nxQ_ct {g : LEnv → Sto → Prop} {Q : Fl → Sto → Prop} {s : Sto} : nxQ g Q (.ct e) s = Q (.ct e) s := (rfl)
theorem nxQ_bk {g : LEnv → Sto → Prop} {Q : Fl → Sto → Prop} {s : Sto} : nxQ g Q (.bk e) s = Q (.bk e) s := (rfl)
theorem nxQ_ex {g : LEnv → Sto → Prop} {Q : Fl → Sto → Prop} {s : Sto} {c ks xs} : nxQ g Q (.ex c ks xs e) s = Q (.ex c ks xs e) s := (rfl)
theorem wp_nxt {r : Res Fl} {f : LEnv → Sto → Res Fl} {t : Tag f} {Q : Fl → Sto → Prop} (h : WP r (nxQ (fun e1 s => WP (f e1 s) Q X) Q) X) : WP (r.nxt f t) Q X := by
  cases r with
  | ok a s => cases a <;> exact h
  | exc c ks xs s => exact h
  | bad => exact h
/-- .. a turn -/
def trQ (g : LEnv → Sto → Prop) (Q : Fl → Sto → Prop) : Fl → Sto → Prop := fun fl s => match fl with
  | .nx e1 => g e1 s
  | .ct e1 => g e1 s
  | .bk e1 => Q (.nx e1) s
  | fl => Q fl s
theorem trQ_nx {g : LEnv → Sto → Prop} {Q : Fl → Sto → Prop} {s : Sto} : trQ g Q (.nx e) s = g e s := (rfl)
theorem trQ_ct {g : LEnv → Sto → Prop} {Q : Fl → Sto → Prop} {s : Sto} : trQ g Q (.ct e) s = g e s := (rfl)
theorem trQ_bk {g : LEnv → Sto → Prop} {Q : Fl → Sto → Prop} {s : Sto} : trQ g Q (.bk e) s = Q (.nx e) s := (rfl)
theorem trQ_rt {g : LEnv → Sto → Prop} {Q : Fl → Sto → Prop} {s : Sto} {v : PV} : trQ g Q (.rt v) s = Q (.rt v) s := (rfl)
theorem trQ_ex {g : LEnv → Sto → Prop} {Q : Fl → Sto → Prop} {s : Sto} {c ks xs} : trQ g Q (.ex c ks xs e) s = Q (.ex c ks xs e) s := (rfl)
theorem wp_trn {r : Res Fl} {f : LEnv → Sto → Res Fl} {t : Tag f} {Q : Fl → Sto → Prop} (h : WP r (trQ (fun e1 s => WP (f e1 s) Q X) Q) X) : WP (r.trn f t) Q X := by
  cases r with
  | ok a s => cases a <;> exact h
  | exc c ks xs s => exact h
  | bad => exact h
/-- a def's end -/
def enQ (Q : PV → Sto → Prop) (X : XP) : Fl → Sto → Prop := fun fl s => match fl with
  | .rt v => Q v s
  | .nx _ => Q .non s
  | .ex c ks xs _ => X c ks xs s
  | _ => False
theorem enQ_rt {Q : PV → Sto → Prop} {s : Sto} {v : PV} : enQ Q X (.rt v) s = Q v s := (rfl)
theorem enQ_nx {Q : PV → Sto → Prop} {s : Sto} : enQ Q X (.nx e) s = Q .non s := (rfl)
theorem enQ_ex {Q : PV → Sto → Prop} {s : Sto} {c ks xs} : enQ Q X (.ex c ks xs e) s = X c ks xs s := (rfl)
theorem wp_end {r : Res Fl} {Q : PV → Sto → Prop} (h : WP r (enQ Q X) NX) : WP (endF r) Q X := by
  cases r with
  | ok a s => cases a <;> exact h
  | exc c ks xs s => exact h.elim
  | bad => exact h.elim
theorem wp_noX {r : Res α} {Q : α → Sto → Prop} (h : WP r Q NX) : WP (noX r) Q X := by
  cases r with
  | ok a s => exact h
  | exc c ks xs s => exact h.elim
  | bad => exact h.elim
theorem wp_ite {c : Prop} [Decidable c] {a b : Res α} {Q : α → Sto → Prop} (ht : c → WP a Q X) (hf : ¬c → WP b Q X) : WP (if c then a else b) Q X := by
  by_cases h : c
  · rw [if_pos h]; exact ht h
  · rw [if_neg h]; exact hf h
/-! ### more equations, scrutinee first -/
def strK (x : PV) (f : Str → Res β) (_ : Tag f := .mk f) : Res β := match x with
  | .str z => f z
  | _ => .bad
theorem strK_str {z : Str} {f : Str → Res β} {t : Tag f} : strK (.str z) f t = f z := (rfl)
theorem q_sm {o : Op2} {a b : D PV} : dSM o a b F e st = (a F e st).bndK fun x s => strK x fun z => (b F e s).bndK fun y s2 => o (.str z) y s2 := by
  unfold dSM
  cases a F e st with
  | ok x s => cases x <;> rfl
  | exc => rfl
  | bad => rfl
theorem q_2F {o : CallT → Op2} {a b : D PV} : d2F o a b F e st = (a F e st).bndK fun x s1 => (b F e s1).bndK fun y s2 => o F x y s2 := (rfl)
theorem q_NF {o : CallT → OpN} {as : List (D PV)} : dNF o as F e st = (dArgs as F e st).bndK (o F) := (rfl)
def excK (x : PV) (e : LEnv) (s : Sto) : Res Fl := match x with
  | .xv c ks xs => .ok (.ex c ks xs e) s
  | _ => .bad
theorem excK_xv {c ks xs} : excK (.xv c ks xs) e st = .ok (.ex c ks xs e) st := (rfl)
theorem q_raise {m : D PV} : sRaise m F e st = (m F e st).atK e fun x s => excK x e s := by
  unfold sRaise
  cases m F e st with
  | ok x s => cases x <;> rfl
  | exc => rfl
  | bad => rfl
def rngR2 (x y : PV) (s : Sto) : Res Src := match x, y with
  | .int lo, .int hi => if -(2 ^ 62) ≤ lo ∧ lo < 2 ^ 62 ∧ -(2 ^ 62) ≤ hi ∧ hi < 2 ^ 62 then .ok (.seq (intsFrom lo (hi - lo).toNat)) s else .bad
  | _, _ => .bad
theorem q_rng2 {a b : D PV} : dRng2 a b F e st = (a F e st).bndK fun x s => (b F e s).bndK fun y s1 => rngR2 x y s1 := (rfl)
theorem rngR2_ok {lo hi : Int} (h1 : -1000000 ≤ lo) (h2 : lo < 1000000) (h3 : -1000000 ≤ hi) (h4 : hi < 1000000) : rngR2 (.int lo) (.int hi) st = .ok (.seq (intsFrom lo (hi - lo).toNat)) st := by
  have hb : -(2 ^ 62) ≤ lo ∧ lo < 2 ^ 62 ∧ -(2 ^ 62) ≤ hi ∧ hi < 2 ^ 62 := by refine ⟨?_, ?_, ?_, ?_⟩ <;> omega
  simp only [rngR2, if_pos hb]
section
variable {x0 x1 x2 x3 x4 x5 x6 x7 x8 : α} {r : List α}
theorem at0 : L2.atI (x0 :: r) 0 = some x0 := L2.atI_nat (j := 0) rfl
theorem at1 : L2.atI (x0 :: x1 :: r) 1 = some x1 := L2.atI_nat (j := 1) rfl
theorem at2 : L2.atI (x0 :: x1 :: x2 :: r) 2 = some x2 := L2.atI_nat (j := 2) rfl
theorem at3 : L2.atI (x0 :: x1 :: x2 :: x3 :: r) 3 = some x3 := L2.atI_nat (j := 3) rfl
theorem at4 : L2.atI (x0 :: x1 :: x2 :: x3 :: x4 :: r) 4 = some x4 := L2.atI_nat (j := 4) rfl
theorem at5 : L2.atI (x0 :: x1 :: x2 :: x3 :: x4 :: x5 :: r) 5 = some x5 := L2.atI_nat (j := 5) rfl
theorem at6 : L2.atI (x0 :: x1 :: x2 :: x3 :: x4 :: x5 :: x6 :: r) 6 = some x6 := L2.atI_nat (j := 6) rfl
theorem at7 : L2.atI (x0 :: x1 :: x2 :: x3 :: x4 :: x5 :: x6 :: x7 :: r) 7 = some x7 := L2.atI_nat (j := 7) rfl
theorem at8 : L2.atI (x0 :: x1 :: x2 :: x3 :: x4 :: x5 :: x6 :: x7 :: x8 :: r) 8 = some x8 := L2.atI_nat (j := 8) rfl
end
theorem q_xnew {c : Nat} {ks : List Nat} {as : List (D PV)} {sel : List Sel} : dXNew c ks as sel F e st = (dArgs as F e st).bndK fun xs s => optR (pick xs sel) fun ys => if ys.length = ks.length then .ok (mkX c ks ys) s else .bad := by
  simp only [dXNew, optR]
  cases dArgs as F e st with
  | ok x s => simp only [Res.bndK, Res.bnd]; cases pick x sel <;> rfl
  | exc => rfl
  | bad => rfl
theorem q_xnew0 {c : Nat} : dXNew0 c F e st = .ok (.xv c [] []) st := (rfl)
theorem mkX1 {c k : Nat} {v : PV} : mkX c [k] [v] = .xv c [k] [v] := (rfl)
theorem mkX2 {c k j : Nat} {v w : PV} : mkX c [k, j] [v, w] = .xv c [k, j] [w, v] := (rfl)
theorem pick0 {xs : List PV} : pick xs [] = some [] := (rfl)
def pickK (o : Option PV) (p : Option (List PV)) : Option (List PV) := match o, p with
  | some x, some ys => some (x :: ys)
  | _, _ => none
theorem pickA {xs : List PV} {i : Nat} {r : List Sel} : pick xs (.a i :: r) = pickK xs[i]? (pick xs r) := (rfl)
theorem pickK_some {x : PV} {ys : List PV} : pickK (some x) (some ys) = some (x :: ys) := (rfl)
def pickD (v : PV) (p : Option (List PV)) : Option (List PV) := match p with
  | some ys => some (v :: ys)
  | none => none
theorem pickDf {xs : List PV} {v : PV} {r : List Sel} : pick xs (.d v :: r) = pickD v (pick xs r) := (rfl)
theorem pickD_some {x : PV} {ys : List PV} : pickD x (some ys) = some (x :: ys) := (rfl)
theorem q_newSel {mt : Bool} {c j : Nat} {sel : List Sel} {xs : List PV} : newSel mt c j sel F xs st = optR (pick xs sel) fun ys => mkIns mt c j F ys st := by
  simp only [newSel, optR]
  cases pick xs sel <;> rfl
theorem q_callSel {j : Nat} {x : PV} {sel : List Sel} {xs : List PV} : callSel j x sel F xs st = optR (pick (x :: xs) sel) fun ys => F j ys st := by
  simp only [callSel, optR]
  cases pick (x :: xs) sel <;> rfl
/-- try .. except .. raise from None -/
def tryK (r : Res Fl) (f : Nat → LEnv → Sto → Res Fl) (_ : Tag f := .mk f) : Res Fl := match r with
  | .ok (.ex c _ _ e1) s => f c e1 s
  | r => r
theorem tryK_nx {s : Sto} {f : Nat → LEnv → Sto → Res Fl} {t : Tag f} : tryK (.ok (.nx e) s) f t = .ok (.nx e) s := (rfl)
theorem tryK_rt {s : Sto} {f : Nat → LEnv → Sto → Res Fl} {t : Tag f} {v : PV} : tryK (.ok (.rt v) s) f t = .ok (.rt v) s := (rfl)
theorem tryK_ex {s : Sto} {f : Nat → LEnv → Sto → Res Fl} {t : Tag f} {c ks xs} : tryK (.ok (.ex c ks xs e) s) f t = f c e s := (rfl)
theorem q_tryX {Tn : List FnI} {hit : Nat → Bool} {body : SD} {m : D PV} : sTryX Tn hit body m F e st = tryK (body (callK Tn 3) e st) fun c e1 s => if hit c then sRaise m F e1 s else .bad := by
  unfold sTryX
  cases body (callK Tn 3) e st with
  | ok a s => cases a <;> rfl
  | exc => rfl
  | bad => rfl
/-- f(lambda: ..), f a def that catches -/
def cauK (x : Res PV) (fo : PV → Sto → Res PV) (fx : Nat → List Nat → List PV → Sto → Res PV) (_ : Tag fo := .mk fo) (_ : Tag fx := .mk fx) : Res PV := match x with
  | .ok v s => fo v s
  | .exc c ks xs s => fx c ks xs s
  | .bad => .bad
theorem cauK_ok {v : PV} {s : Sto} {fo : PV → Sto → Res PV} {fx : Nat → List Nat → List PV → Sto → Res PV} {t : Tag fo} {u : Tag fx} : cauK (.ok v s) fo fx t u = fo v s := (rfl)
theorem cauK_exc {c ks xs} {s : Sto} {fo : PV → Sto → Res PV} {fx : Nat → List Nat → List PV → Sto → Res PV} {t : Tag fo} {u : Tag fx} : cauK (.exc c ks xs s) fo fx t u = fx c ks xs s := (rfl)
theorem q_caught {hits : Nat → Bool} {Th : List FnI} {jh n i : Nat} {a r : D PV} : dCaught hits Th jh n i a r F e st = cauK (a F e st) (fun v st1 => r F ((List.replicate n none).set i (some v)) st1) fun c ks xs st1 => if hits c then hotF (pureVs xs) (callK Th 4 jh [.xv c ks xs] []) st1 else .bad := by
  unfold dCaught
  cases a F e st <;> rfl
theorem hotF_ok {v : PV} {s : Sto} (h : (pureV v && cleanV v) = true) : hotF true (.ok v s) st = .ok v st := by simp only [hotF, h, if_true]
theorem strRes_str {x : Str} : strRes (.ok (.str x) st) = .ok (.str x) st := (rfl)
theorem ownRes_bl {n b : Bool} : ownRes n (.ok (.bl b) st) = .ok (.bl (b != n)) st := (rfl)
/-- a call by its body: an argument names a cell -/
theorem wp_go {T : List FnI} {k j : Nat} {fi : FnI} {args : List PV} {Q : PV → Sto → Prop} (hT : T[j]? = some fi) (hl : args.length = fi.ps.length) (hp : pureVs args = false) (h : WP (fi.body (callK T k) (startE fi.N.length args) st) (enQ Q X) NX) : WP (callK T (k + 1) j args st) Q X := by
  rw [callK_go hT hl hp]
  exact wp_end h
/-- .. values alone enter and leave -/
theorem wp_iso {T : List FnI} {k j : Nat} {fi : FnI} {args : List PV} {Q : PV → Sto → Prop} (hT : T[j]? = some fi) (hl : args.length = fi.ps.length) (hp : pureVs args = true)
    (h : WP (fi.body (callK T k) (startE fi.N.length args) []) (enQ (fun v _ => pureV v = true ∧ Q v st) fun c ks xs _ => pureVs xs = true ∧ X c ks xs st) NX) : WP (callK T (k + 1) j args st) Q X := by
  rw [callK_all hT hl]
  simp only [isoF, hp, if_true]
  have h2 := wp_end h
  cases e1 : endF (fi.body (callK T k) (startE fi.N.length args) []) with
  | ok v s =>
    rw [e1] at h2
    simp only [h2.1, if_true]
    exact h2.2
  | exc c ks xs s =>
    rw [e1] at h2
    simp only [h2.1, if_true]
    exact h2.2
  | bad => rw [e1] at h2; exact h2.elim
/-- .. in any case -/
theorem wp_all {T : List FnI} {k j : Nat} {fi : FnI} {args : List PV} {Q : PV → Sto → Prop} (hT : T[j]? = some fi) (hl : args.length = fi.ps.length)
    (h0 : WP (fi.body (callK T k) (startE fi.N.length args) []) (enQ (fun v _ => pureV v = true → Q v st) fun c ks xs _ => pureVs xs = true → X c ks xs st) NX)
    (h : WP (fi.body (callK T k) (startE fi.N.length args) st) (enQ Q X) NX) : WP (callK T (k + 1) j args st) Q X := by
  rw [callK_all hT hl]
  simp only [isoF]
  split
  · have h1 := wp_end h0
    split
    · rename_i v s e1
      rw [e1] at h1
      split
      · rename_i hv; exact h1 hv
      · exact wp_end h
    · rename_i c ks xs s e1
      rw [e1] at h1
      split
      · rename_i hv; exact h1 hv
      · exact wp_end h
    · rename_i e1
      rw [e1] at h1; exact h1.elim
  · exact wp_end h
/-- turns over a row; I tells of what is left -/
theorem wp_forSeq {g : G} {b : SD} {Q : Fl → Sto → Prop} (I : List PV → LEnv → Sto → Prop)
    (hs : ∀ y r e s, I (y :: r) e s → WP (g y F e s) (fun e1 s1 => WP (b F e1 s1) (trQ (I r) Q) X) fun c ks xs s1 => Q (.ex c ks xs e) s1) (he : ∀ e s, I [] e s → Q (.nx e) s) :
    ∀ (ys : List PV) (e : LEnv) (s : Sto), I ys e s → WP (forSeq g b ys F e s) Q X
  | [], e, s, h => he e s h
  | y :: ys, e, s, h => by
    rw [forSeq_cons]
    refine wp_at ((hs y ys e s h).mono (fun e1 s1 h1 => wp_trn (h1.mono (fun fl s2 h2 => ?_) fun _ _ _ _ z => z)) fun _ _ _ _ z => z)
    cases fl with
    | nx e2 => exact wp_forSeq I hs he ys e2 s2 h2
    | ct e2 => exact wp_forSeq I hs he ys e2 s2 h2
    | bk e2 => exact h2
    | rt v => exact h2
    | ex c ks xs e2 => exact h2
/-- .. over a cell that stays -/
theorem wp_forCell {g : G} {b : SD} {Q : Fl → Sto → Prop} {n : Nat} {xs : List PV} (I : List PV → LEnv → Sto → Prop) (hc : ∀ r e s, I r e s → s[n]? = some (.lst xs))
    (hs : ∀ y r e s, I (y :: r) e s → WP (g y F e s) (fun e1 s1 => WP (b F e1 s1) (trQ (I r) Q) X) fun c ks xs s1 => Q (.ex c ks xs e) s1) (he : ∀ e s, I [] e s → Q (.nx e) s) :
    ∀ (k i : Nat) (e : LEnv) (s : Sto), k + i = xs.length → I (xs.drop i) e s → WP (forCell g b n k i F e s) Q X
  | 0, i, e, s, hk, h => by
    rw [forCell_end (hc _ _ _ h) (by omega)]
    rw [List.drop_eq_nil_of_le (by omega)] at h
    exact he e s h
  | k + 1, i, e, s, hk, h => by
    have hi : i < xs.length := by omega
    have hc0 := hc _ _ _ h
    rw [List.drop_eq_getElem_cons hi] at h
    rw [forCell_step hc0 (List.getElem?_eq_getElem hi)]
    refine wp_at ((hs _ _ e s h).mono (fun e1 s1 h1 => wp_trn (h1.mono (fun fl s2 h2 => ?_) fun _ _ _ _ z => z)) fun _ _ _ _ z => z)
    cases fl with
    | nx e2 => exact wp_forCell I hc hs he k (i + 1) e2 s2 (by omega) h2
    | ct e2 => exact wp_forCell I hc hs he k (i + 1) e2 s2 (by omega) h2
    | bk e2 => exact h2
    | rt v => exact h2
    | ex c ks xs e2 => exact h2
/-- a comprehension over a row; I tells of what is left and what is made -/
theorem wp_compSeq {g : G} {t : D Bool} {m : D PV} {Q : List PV → Sto → Prop} (I : List PV → List PV → Sto → Prop)
    (hs : ∀ y r acc s, I (y :: r) acc s → WP (g y F e s) (fun e1 s1 => WP (t F e1 s1) (fun c s2 => if c then WP (m F e1 s2) (fun z s3 => I r (acc ++ [z]) s3) NX else I r acc s2) NX) NX) :
    ∀ (ys acc : List PV) (s : Sto), I ys acc s → (∀ zs s, I [] (acc ++ zs) s → Q zs s) → WP (compSeq g t m ys F e s) Q X
  | [], acc, s, h, he => he [] s (by rw [List.append_nil]; exact h)
  | y :: ys, acc, s, h, he => by
    rw [compSeq_cons]
    refine wp_bnd (wp_noX ((hs y ys acc s h).mono (fun e1 s1 h1 => wp_bnd (wp_noX (h1.mono (fun c s2 h2 => ?_) fun _ _ _ _ z => z))) fun _ _ _ _ z => z))
    cases c with
    | true =>
      simp only [↓reduceIte] at h2 ⊢
      refine wp_bnd (wp_noX (WP.mono h2 (fun z s3 h3 => wp_bnd ?_) fun _ _ _ _ z => z))
      exact wp_compSeq (Q := fun zs s4 => WP (.ok (z :: zs) s4) Q X) I hs ys (acc ++ [z]) s3 h3 fun zs s h => he (z :: zs) s (by rw [List.append_assoc] at h; exact h)
    | false =>
      simp only [Bool.false_eq_true, ↓reduceIte] at h2 ⊢
      exact wp_compSeq I hs ys acc s2 h2 he
theorem wp_compCell {g : G} {t : D Bool} {m : D PV} {Q : List PV → Sto → Prop} {n : Nat} {xs : List PV} (I : List PV → List PV → Sto → Prop) (hc : ∀ r acc s, I r acc s → s[n]? = some (.lst xs))
    (hs : ∀ y r acc s, I (y :: r) acc s → WP (g y F e s) (fun e1 s1 => WP (t F e1 s1) (fun c s2 => if c then WP (m F e1 s2) (fun z s3 => I r (acc ++ [z]) s3) NX else I r acc s2) NX) NX) :
    ∀ (k i : Nat) (acc : List PV) (s : Sto), k + i = xs.length → I (xs.drop i) acc s → (∀ zs s, I [] (acc ++ zs) s → Q zs s) → WP (compCell g t m n k i F e s) Q X
  | 0, i, acc, s, hk, h, he => by
    rw [compCell_end (hc _ _ _ h) (by omega)]
    rw [List.drop_eq_nil_of_le (by omega)] at h
    exact he [] s (by rw [List.append_nil]; exact h)
  | k + 1, i, acc, s, hk, h, he => by
    have hi : i < xs.length := by omega
    have hc0 := hc _ _ _ h
    rw [List.drop_eq_getElem_cons hi] at h
    have e0 : compCell g t m n (k + 1) i F e s = (noX (g xs[i] F e s)).bndK fun e1 s1 => (noX (t F e1 s1)).bndK fun c s2 => if c then (noX (m F e1 s2)).bndK fun z s3 => (compCell g t m n k (i + 1) F e s3).bndK fun zs s4 => .ok (z :: zs) s4 else compCell g t m n k (i + 1) F e s2 := by
      simp only [compCell, hc0, List.getElem?_eq_getElem hi]; rfl
    rw [e0]
    refine wp_bnd (wp_noX ((hs _ _ acc s h).mono (fun e1 s1 h1 => wp_bnd (wp_noX (h1.mono (fun c s2 h2 => ?_) fun _ _ _ _ z => z))) fun _ _ _ _ z => z))
    cases c with
    | true =>
      simp only [↓reduceIte] at h2 ⊢
      refine wp_bnd (wp_noX (WP.mono h2 (fun z s3 h3 => wp_bnd ?_) fun _ _ _ _ z => z))
      exact wp_compCell (Q := fun zs s4 => WP (.ok (z :: zs) s4) Q X) I hc hs k (i + 1) (acc ++ [z]) s3 (by omega) h3 fun zs s h => he (z :: zs) s (by rw [List.append_assoc] at h; exact h)
    | false =>
      simp only [Bool.false_eq_true, ↓reduceIte] at h2 ⊢
      exact wp_compCell I hc hs k (i + 1) acc s2 (by omega) h2 he
end
end OL
set_option maxRecDepth 100000
/-! ## texts: cut at a sign, joined, shown -/
namespace OL
open PySem TL
theorem pre1 {s c : Nat} {r : List Nat} : pre [s] (c :: r) = (c == s) := by
  unfold pre
  simp
theorem spl1_cons {s c : Nat} {acc r : List Nat} : spl [s] 0 acc (c :: r) = if c = s then acc :: spl [s] 0 [] r else spl [s] 0 (acc ++ [c]) r := by
  by_cases h : c = s
  · rw [if_pos h, spl_hit (by rw [pre1]; simpa using h)]; rfl
  · rw [if_neg h, spl_miss (by rw [pre1]; simpa using h)]
theorem spl1_ne {s : Nat} : ∀ (l acc : List Nat), spl [s] 0 acc l ≠ []
  | [], acc => by rw [spl_nil]; simp
  | c :: r, acc => by
    rw [spl1_cons]
    split
    · simp
    · exact spl1_ne r _
theorem spl1_back {s : Nat} : ∀ (l acc : List Nat), joinL [s] (spl [s] 0 acc l) = acc ++ l
  | [], acc => by rw [spl_nil]; simp [joinL]
  | c :: r, acc => by
    rw [spl1_cons]
    split
    · rename_i h
      subst h
      have ih := spl1_back (s := c) r []
      have hn := spl1_ne (s := c) r []
      cases e : spl [c] 0 [] r with
      | nil => exact absurd e hn
      | cons p q =>
        rw [e] at ih
        simp only [joinL, ih, List.nil_append, List.cons_append]
    · rw [spl1_back r (acc ++ [c]), List.append_assoc]; rfl
theorem spl1_free {s : Nat} : ∀ (l acc : List Nat), s ∉ acc → ∀ p ∈ spl [s] 0 acc l, s ∉ p
  | [], acc, h, p, hp => by
    rw [spl_nil, List.mem_singleton] at hp
    subst hp; exact h
  | c :: r, acc, h, p, hp => by
    rw [spl1_cons] at hp
    split at hp
    · rcases List.mem_cons.mp hp with e | hp
      · subst e; exact h
      · exact spl1_free r [] (by simp) p hp
    · rename_i n
      exact spl1_free r (acc ++ [c]) (by simp [h]; exact fun z => n z.symm) p hp
theorem spl1_mem {s : Nat} : ∀ (l acc : List Nat) (p : List Nat), p ∈ spl [s] 0 acc l → ∀ c ∈ p, c ∈ acc ∨ c ∈ l
  | [], acc, p, hp, c, hc => by
    rw [spl_nil, List.mem_singleton] at hp
    subst hp; exact .inl hc
  | d :: r, acc, p, hp, c, hc => by
    rw [spl1_cons] at hp
    split at hp
    · rcases List.mem_cons.mp hp with e | hp
      · subst e; exact .inl hc
      · rcases spl1_mem r [] p hp c hc with h | h
        · simp at h
        · exact .inr (List.mem_cons_of_mem _ h)
    · rcases spl1_mem r _ p hp c hc with h | h
      · rcases List.mem_append.mp h with h | h
        · exact .inl h
        · rw [List.mem_singleton] at h; subst h; exact .inr (List.mem_cons_self ..)
      · exact .inr (List.mem_cons_of_mem _ h)
theorem spl1_len {s : Nat} : ∀ (l acc : List Nat), ((spl [s] 0 acc l).map (·.length)).sum + (spl [s] 0 acc l).length = acc.length + l.length + 1
  | [], acc => by rw [spl_nil]; simp
  | c :: r, acc => by
    rw [spl1_cons]
    split
    · have ih := spl1_len (s := s) r []
      simp only [List.map_cons, List.sum_cons, List.length_cons, List.length_nil] at ih ⊢
      omega
    · have ih := spl1_len (s := s) r (acc ++ [c])
      simp only [List.length_append, List.length_cons, List.length_nil] at ih ⊢
      omega
/-- the parts of a text cut at one sign -/
theorem split1 (x : Str) (s : Nat) (hs : s < 256) : (Txt.split x ⟨#[s]⟩).map tl = spl [s] 0 [] (tl x) :=
  split_spl x ⟨#[s]⟩ (by simp [tl]) (kind_ok (by simp [hs]))
theorem split1_join (x : Str) (s : Nat) (hs : s < 256) : Txt.join ⟨#[s]⟩ (Txt.split x ⟨#[s]⟩) = x := by
  refine ext_tl ?_
  rw [join_eq, tl_join, split1 x s hs]
  show joinL [s] _ = _
  rw [spl1_back]; rfl
theorem split1_free {x : Str} {s : Nat} (hs : s < 256) {p : Str} (h : p ∈ Txt.split x ⟨#[s]⟩) : s ∉ tl p := by
  have := List.mem_map_of_mem (f := tl) h
  rw [split1 x s hs] at this
  exact spl1_free _ [] (by simp) _ this
theorem split1_mem {x : Str} {s : Nat} (hs : s < 256) {p : Str} (h : p ∈ Txt.split x ⟨#[s]⟩) : ∀ c ∈ tl p, c ∈ tl x := fun c hc => by
  have := List.mem_map_of_mem (f := tl) h
  rw [split1 x s hs] at this
  rcases spl1_mem _ [] _ this c hc with h | h
  · simp at h
  · exact h
theorem split1_sum (x : Str) (s : Nat) (hs : s < 256) : ((Txt.split x ⟨#[s]⟩).map (·.length)).sum + (Txt.split x ⟨#[s]⟩).length = x.length + 1 := by
  have h := spl1_len (s := s) (tl x) []
  rw [← split1 x s hs] at h
  have e : ((Txt.split x ⟨#[s]⟩).map tl).map (·.length) = (Txt.split x ⟨#[s]⟩).map (·.length) := by
    rw [List.map_map]
    exact List.map_congr_left fun p _ => (len_tl p).symm
  rw [e, List.length_map] at h
  rw [len_tl x]
  simpa using h
theorem split1_ne (x : Str) (s : Nat) (hs : s < 256) : Txt.split x ⟨#[s]⟩ ≠ [] := fun e => by
  have h := split1 x s hs
  rw [e] at h
  exact spl1_ne _ _ h.symm
theorem sum_mem : ∀ {l : List Nat} {n : Nat}, n ∈ l → n ≤ l.sum
  | [], _, h => by simp at h
  | a :: l, n, h => by
    rw [List.sum_cons]
    rcases List.mem_cons.mp h with e | h
    · subst e; omega
    · have := sum_mem h; omega
theorem split1_le {x : Str} {s : Nat} (hs : s < 256) {p : Str} (h : p ∈ Txt.split x ⟨#[s]⟩) : p.length ≤ x.length := by
  have h1 := split1_sum x s hs
  have h2 : p.length ≤ ((Txt.split x ⟨#[s]⟩).map (·.length)).sum := sum_mem (List.mem_map_of_mem (f := (·.length)) h)
  have h3 : 0 < (Txt.split x ⟨#[s]⟩).length := List.length_pos_iff.mpr (split1_ne x s hs)
  omega
/-! ### what repr shows -/
/-- plain signs alone, so many at most -/
structure Pl (n : Nat) (x : Str) : Prop where
  len : x.length ≤ n
  pl : ∀ c ∈ tl x, c < 128
theorem Pl.mono {n m : Nat} {x : Str} (h : Pl n x) (l : n ≤ m) : Pl m x := ⟨Nat.le_trans h.len l, h.pl⟩
theorem Pl.app {n m : Nat} {x y : Str} (h : Pl n x) (g : Pl m y) : Pl (n + m) (x ++ y) := ⟨by rw [Str.length_append]; have := h.len; have := g.len; omega, fun c hc => by
  rw [tl_append] at hc
  rcases List.mem_append.mp hc with hc | hc
  · exact h.pl c hc
  · exact g.pl c hc⟩
theorem Pl.part {n s : Nat} {x p : Str} (h : Pl n x) (hs : s < 256) (hp : p ∈ Txt.split x ⟨#[s]⟩) : Pl n p := ⟨Nat.le_trans (split1_le hs hp) h.len, fun c hc => h.pl c (split1_mem hs hp c hc)⟩
theorem joinL_mem {S : List Nat} : ∀ {ps : List (List Nat)} {c : Nat}, c ∈ joinL S ps → c ∈ S ∨ ∃ p ∈ ps, c ∈ p
  | [], c, h => by simp [joinL] at h
  | [p], c, h => .inr ⟨p, List.mem_cons_self .., h⟩
  | p :: q :: r, c, h => by
    simp only [joinL, List.mem_append] at h
    rcases h with h | h | h
    · exact .inr ⟨p, List.mem_cons_self .., h⟩
    · exact .inl h
    · rcases joinL_mem h with h | ⟨z, h1, h2⟩
      · exact .inl h
      · exact .inr ⟨z, List.mem_cons_of_mem _ h1, h2⟩
theorem joinL_len {s : Nat} : ∀ {ps : List (List Nat)}, (joinL [s] ps).length ≤ (ps.map (·.length)).sum + ps.length
  | [] => by simp [joinL]
  | [p] => by simp [joinL]
  | p :: q :: r => by
    have := joinL_len (s := s) (ps := q :: r)
    simp only [joinL, List.length_append, List.map_cons, List.sum_cons, List.length_cons, List.length_nil] at this ⊢
    omega
theorem Pl.join {m : Nat} {ps : List Str} (h : ∀ p ∈ ps, ∀ c ∈ tl p, c < 128) (hm : (ps.map (·.length)).sum + ps.length ≤ m) : Pl m (Txt.join ⟨#[32]⟩ ps) := by
  refine ⟨?_, fun c hc => ?_⟩
  · rw [len_tl, join_eq, tl_join]
    have := joinL_len (s := 32) (ps := ps.map tl)
    have e : (ps.map tl).map (·.length) = ps.map (·.length) := by
      rw [List.map_map]; exact List.map_congr_left fun p _ => (len_tl p).symm
    rw [e, List.length_map] at this
    exact Nat.le_trans this hm
  · rw [join_eq, tl_join] at hc
    rcases joinL_mem hc with hc | ⟨p, h1, h2⟩
    · have : c = 32 := by simpa [tl] using hc
      omega
    · obtain ⟨q, hq, rfl⟩ := List.mem_map.mp h1
      exact h q hq c h2
open Builtin.Str in
theorem repr_signs : ((List.range 128).all fun c => ((reprChar 39 c).all (· < 1114112)) && ((reprChar 34 c).all (· < 1114112))) = true := by decide +kernel
open Builtin.Str PyProof in
theorem fold_ok {q : Nat} (hq : q = 39 ∨ q = 34) : ∀ (l : List Nat) (acc : Array Nat), (∀ c ∈ l, c < 128) → acc.all (· < 1114112) = true → (l.foldl (fun out c => out ++ (reprChar q c).toArray) acc).all (· < 1114112) = true
  | [], acc, _, h => h
  | c :: r, acc, hl, h => by
    refine fold_ok hq r _ (fun d hd => hl d (List.mem_cons_of_mem _ hd)) ?_
    have := List.all_eq_true.mp repr_signs c (List.mem_range.mpr (hl c (List.mem_cons_self ..)))
    rw [Bool.and_eq_true] at this
    rw [Array.all_append, h, Bool.true_and]
    rcases hq with rfl | rfl
    · simpa using this.1
    · simpa using this.2
open Builtin.Str in
theorem repr_ok {n : Nat} {x : Str} (h : Pl n x) : PyData.strOk (reprText x) = true := by
  have hq : reprQuote x = 39 ∨ reprQuote x = 34 := by
    unfold reprQuote
    split
    · exact .inr rfl
    · exact .inl rfl
  unfold PyData.strOk reprText
  show (Array.push _ _).all _ = true
  rw [Array.all_push, ← Array.foldl_toList, fold_ok hq x.cps.toList #[reprQuote x] h.pl (by rcases hq with e | e <;> rw [e] <;> simp)]
  rcases hq with e | e <;> rw [e] <;> simp
theorem pl_ok {n : Nat} {x : Str} (h : Pl n x) : PyData.strOk x = true := by
  unfold PyData.strOk
  rw [Array.all_eq_true']
  intro c hc
  have := h.pl c (by simpa [tl] using hc)
  simp only [decide_eq_true_eq]
  omega
theorem pl_repr {n : Nat} {x : Str} {st : Sto} (h : Pl n x) (hn : n ≤ 100000) : bRepr [.str x] st = .ok (.str (reprText x)) st := by
  have hl : (reprText x).length ≤ 16777216 := by
    have := StrLaws.reprText_len x (fun c hc => by have := h.pl c hc; omega)
    have := h.len
    omega
  have hd : PyData.depth (.str x) ≤ 64 := by simp [PyData.depth]
  simp only [bRepr, reprOf, deepR, PyData.showable, PyData.shown, Bool.true_and, decide_eq_true hd, hl, decide_true, ↓reduceIte]
/-! ### rows of texts compared -/
theorem lay_strs : ∀ (xs : List Str), (∀ x ∈ xs, PyData.strOk x = true) → PyData.canLayAll0 (xs.map .str) = true
  | [], _ => rfl
  | x :: xs, h => by
    simp only [List.map_cons, PyData.canLayAll0, PyData.canLay0, h x (List.mem_cons_self ..), lay_strs xs fun y hy => h y (List.mem_cons_of_mem _ hy), Bool.and_self]
theorem deep_strs {st : Sto} {n : Nat} : ∀ (xs : List Str), mapO (deep st (n + 1)) (xs.map PV.str) = some (xs.map .str)
  | [] => rfl
  | x :: xs => by simp only [List.map_cons, mapO, deep, deep_strs xs]
theorem depth_strs : ∀ (xs : List Str), PyData.depthAll (xs.map .str) = 0
  | [] => rfl
  | x :: xs => by simp only [List.map_cons, PyData.depthAll, PyData.depth, depth_strs xs, Nat.max_self]
theorem eqv_strs : ∀ (xs ys : List Str), PyData.eqvAll (xs.map .str) (ys.map .str) = decide (xs = ys)
  | [], [] => by simp [PyData.eqvAll]
  | x :: xs, [] => by simp [PyData.eqvAll]
  | [], y :: ys => by simp [PyData.eqvAll]
  | x :: xs, y :: ys => by
    simp only [List.map_cons, PyData.eqvAll, PyData.eqv, eqv_strs xs ys, List.cons.injEq, Bool.decide_and]
    congr 1
theorem eq_strs {st : Sto} {xs ys : List Str} (hx : ∀ x ∈ xs, PyData.strOk x = true) (hy : ∀ x ∈ ys, PyData.strOk x = true) : eqData st (.lv (xs.map .str)) (.lv (ys.map .str)) = some (decide (xs = ys)) := by
  have e : ∀ zs : List Str, deep st 64 (.lv (zs.map .str)) = some (.list (zs.map .str)) := fun zs => by
    show (mapO (deep st 63) (zs.map PV.str)).map PyData.list = _
    rw [deep_strs (n := 62)]; rfl
  have h : ∀ zs : List Str, (∀ x ∈ zs, PyData.strOk x = true) → SeqAt.shaped (.list (zs.map .str)) = true := fun zs hz => by
    simp only [SeqAt.shaped, PyData.canLay0, PyData.depth, depth_strs, lay_strs zs hz]; rfl
  have e0 : ∀ a b : List PV, eqData st (.lv a) (.lv b) = match deep st 64 (.lv a), deep st 64 (.lv b) with
    | some d, some e => if SeqAt.shaped d && SeqAt.shaped e then some (PyData.eqv d e) else none
    | _, _ => none := fun _ _ => rfl
  rw [e0, e, e]
  simp only [h xs hx, h ys hy, Bool.and_self, if_true, PyData.eqv, eqv_strs]
end OL
set_option maxRecDepth 100000
set_option maxHeartbeats 0
namespace Lw
open PySem PySem.Spec PyProof.Rows L2 OL
def top (i : Nat) : Stmt := PySem.Challenge.pw_offerlists_k04_house_texts_read.main.body.getD i (.Pass ⟨0, 0, 0, 0⟩)
def inC (i j : Nat) : Stmt := match top i with
  | .ClassDef _ _ _ body _ _ _ _ _ _ _ => body.getD j (.Pass ⟨0, 0, 0, 0⟩)
  | s => s
/-- 0 is_integer, 1 is_between, 2 is_word, 3 _law_number, 4 _law_purse, 5 _law_pick, 6 _law_rules, 7 _law_house_text, 8 _law_error, 9 _law_caught, 10 _law_due, 11 _law_bent, 12 _law_reads, 13 _law_right, 14 law, 15 House.__init__, 16 House.read, 17 House.__eq__, 18 House.__str__, 19 House.__repr__ -/
def s0 : FSrc := ⟨⟨fun K => He.ga K "is_integer", "is_integer", "is_integer", defArgs (top 17), defBody (top 17), defScope (top 17), [], []⟩,
    ["value"],
    ["value"], false⟩
def s1 : FSrc := ⟨⟨fun K => He.ga K "is_between", "is_between", "is_between", defArgs (top 18), defBody (top 18), defScope (top 18), [], []⟩,
    ["value", "least", "most"],
    ["value", "least", "most"], false⟩
def s2 : FSrc := ⟨⟨fun K => He.ga K "is_word", "is_word", "is_word", defArgs (top 21), defBody (top 21), defScope (top 21), [], []⟩,
    ["value"],
    ["value"], false⟩
def s3 : FSrc := ⟨⟨fun K => He.ga K "_law_number", "_law_number", "_law_number", defArgs (top 24), defBody (top 24), defScope (top 24), [], []⟩,
    ["_law_script", "_law_k"],
    ["_law_script", "_law_k", "_law_mixed", "_law_one"], false⟩
def s4 : FSrc := ⟨⟨fun K => He.ga K "_law_purse", "_law_purse", "_law_purse", defArgs (top 25), defBody (top 25), defScope (top 25), [], []⟩,
    ["_law_number_here"],
    ["_law_number_here", "_law_digits"], false⟩
def s5 : FSrc := ⟨⟨fun K => He.ga K "_law_pick", "_law_pick", "_law_pick", defArgs (top 26), defBody (top 26), defScope (top 26), [], []⟩,
    ["_law_purse_here", "_law_many"],
    ["_law_purse_here", "_law_many", "_law_grown", "_law_state", "_law_turn", "_law_digit"], false⟩
def s6 : FSrc := ⟨⟨fun K => He.ga K "_law_rules", "_law_rules", "_law_rules", defArgs (top 27), defBody (top 27), defScope (top 27), [], []⟩,
    ["_law_purse_here", "_law_most"],
    ["_law_purse_here", "_law_most", "_law_words", "_law_rules_here"], false⟩
def s7 : FSrc := ⟨⟨fun K => He.ga K "_law_house_text", "_law_house_text", "_law_house_text", defArgs (top 28), defBody (top 28), defScope (top 28), [], []⟩,
    ["_law_rules_here"],
    ["_law_rules_here", "_law_first"], false⟩
def s8 : FSrc := ⟨⟨fun K => He.ga K "_law_error", "_law_error", "_law_error", defArgs (top 29), defBody (top 29), defScope (top 29), [], []⟩,
    ["_law_e"],
    ["_law_e", "_law_sorts", "_law_bases", "_law_at", "_law_word"], false⟩
def s9 : FSrc := ⟨⟨fun K => He.ga K "_law_caught", "_law_caught", "_law_caught", defArgs (top 30), defBody (top 30), defScope (top 30), [], []⟩,
    ["_law_act"],
    ["_law_act", "_law_e", "_law_tells"], false⟩
def s10 : FSrc := ⟨⟨fun K => He.ga K "_law_due", "_law_due", "_law_due", defArgs (top 31), defBody (top 31), defScope (top 31), [], []⟩,
    ["_law_line"],
    ["_law_line", "_law_words", "_law_heads"], false⟩
def s11 : FSrc := ⟨⟨fun K => He.ga K "_law_bent", "_law_bent", "_law_bent", defArgs (top 32), defBody (top 32), defScope (top 32), [], []⟩,
    ["_law_purse_here", "_law_line"],
    ["_law_purse_here", "_law_line", "_law_signs", "_law_words", "_law_menu", "_law_road", "_law_at", "_law_sign", "_law_one", "_law_other"], false⟩
def s12 : FSrc := ⟨⟨fun K => He.ga K "_law_reads", "_law_reads", "_law_reads", defArgs (top 33), defBody (top 33), defScope (top 33), [], []⟩,
    ["_law_line"],
    ["_law_line", "_law_due_here", "_law_words", "_law_home"], true⟩
def s13 : FSrc := ⟨⟨fun K => He.ga K "_law_right", "_law_right", "_law_right", defArgs (top 34), defBody (top 34), defScope (top 34), [], []⟩,
    ["_law_purse_here"],
    ["_law_purse_here", "_law_line", "_law_turn"], false⟩
def s14 : FSrc := ⟨⟨fun K => He.ga K "law", "law", "law", defArgs (top 35), defBody (top 35), defScope (top 35), [], []⟩,
    ["_law_script"],
    ["_law_script", "_law_thing", "_law_line", "_law_k", "_law_purse_here", "_law_turn"], true⟩
def s15 : FSrc := ⟨⟨fun K => He.ma K (He.ga K "House") "__init__", "__init__", "House.__init__", defArgs (inC 22 0), defBody (inC 22 0), defScope (inC 22 0), [.str "keep", .str "keep"], []⟩,
    ["self", "wave", "days", "silent", "declined"],
    ["self", "wave", "days", "silent", "declined"], false⟩
def s16 : FSrc := ⟨⟨fun K => He5.wf K (He.ga K "House") "classmethod" "read", "read", "House.read", defArgs (inC 22 1), defBody (inC 22 1), defScope (inC 22 1), [], []⟩,
    ["cls", "text"],
    ["cls", "text", "words", "house"], false⟩
def s17 : FSrc := ⟨⟨fun K => He.ma K (He.ga K "House") "__eq__", "__eq__", "House.__eq__", defArgs (inC 22 2), defBody (inC 22 2), defScope (inC 22 2), [], []⟩,
    ["self", "other"],
    ["self", "other"], false⟩
def s18 : FSrc := ⟨⟨fun K => He.ma K (He.ga K "House") "__str__", "__str__", "House.__str__", defArgs (inC 22 3), defBody (inC 22 3), defScope (inC 22 3), [], []⟩,
    ["self"],
    ["self"], false⟩
def s19 : FSrc := ⟨⟨fun K => He.ma K (He.ga K "House") "__repr__", "__repr__", "House.__repr__", defArgs (inC 22 4), defBody (inC 22 4), defScope (inC 22 4), [], []⟩,
    ["self"],
    ["self"], false⟩
def L : List FSrc := [s0, s1, s2, s3, s4, s5, s6, s7, s8, s9, s10, s11, s12, s13, s14, s15, s16, s17, s18, s19]
def tab : Tab where
  cn := ["House", "NotRight", "InvalidWave", "InvalidDays", "InvalidWord", "InvalidText", "NotAHouse", "InvalidEntries", "InvalidEvents", "NotThere", "UnknownName", "CannotBe", "TooManyAhead"]
  mt := [((0, 0), 15), ((0, 2), 17), ((0, 3), 18), ((0, 4), 19)]
  fl := [(0, 0), (0, 1), (0, 2), (0, 3)]
  ini := [(0, 15)]
  isa := [((0, 0), true)]
  gl := (List.append [("MOST_WAVE", .c (.int (3))), ("MOST_DAYS", .c (.int (9))), ("WORDS", .c (.kt [(.str "keep"), (.str "back"), (.str "out")])), ("DIGITS", .c (.str "0123456789")), ("is_integer", .f 0), ("is_between", .f 1), ("is_word", .f 2), ("_law_number", .f 3), ("_law_purse", .f 4), ("_law_pick", .f 5), ("_law_rules", .f 6), ("_law_house_text", .f 7), ("_law_error", .f 8), ("_law_caught", .f 9), ("_law_due", .f 10), ("_law_bent", .f 11), ("_law_reads", .f 12), ("_law_right", .f 13), ("law", .f 14), ("House", .k 0)] [("NotRight", .k 1), ("InvalidWave", .k 2), ("InvalidDays", .k 3), ("InvalidWord", .k 4), ("InvalidText", .k 5), ("NotAHouse", .k 6), ("InvalidEntries", .k 7), ("InvalidEvents", .k 8), ("NotThere", .k 9), ("UnknownName", .k 10), ("CannotBe", .k 11), ("TooManyAhead", .k 12)])
  free := ["len", "int", "abs", "max", "min", "divmod", "str", "repr", "all", "isinstance", "range", "bool", "ValueError", "LookupError", "ArithmeticError"]
  aL := ["wave", "days", "silent", "declined", "given", "index", "many"]
  mL := ["__init__", "read", "__eq__", "__str__", "__repr__"]
  mu := [(112, 11), (124, 22), (164, 17)]
  frz := []
  sg := [(15, ["self", "wave", "days", "silent", "declined"], [(.str "keep"), (.str "keep")]), (16, ["cls", "text"], [])]
  own := [0]
  ow := [(90, 11), (95, 44), (95, 57), (179, 27), (196, 31), (196, 72), (143, 23), (184, 11)]
  cms := [((0, 1), 16)]
  mks := [(179, 31), (196, 35)]
  xcs := [(1, ([], [])), (2, (["self", "given"], [4])), (3, (["self", "given"], [4])), (4, (["self", "given"], [4])), (5, (["self", "given"], [4])), (6, (["self", "given"], [4])), (7, (["self", "index"], [5])), (8, (["self", "index"], [5])), (9, ([], [])), (10, (["self", "given"], [4])), (11, ([], [])), (12, (["self", "many"], [6]))]
  xis := [(1, [((false, 1), true), ((false, 2), false), ((false, 3), false), ((false, 4), false), ((false, 5), false), ((false, 6), false), ((false, 7), false), ((false, 8), false), ((false, 9), false), ((false, 10), false), ((false, 11), false), ((false, 12), false)]),
    (2, [((false, 1), true), ((false, 2), true), ((false, 3), false), ((false, 4), false), ((false, 5), false), ((false, 6), false), ((false, 7), false), ((false, 8), false), ((false, 9), false), ((false, 10), false), ((false, 11), false), ((false, 12), false)]),
    (3, [((false, 1), true), ((false, 2), false), ((false, 3), true), ((false, 4), false), ((false, 5), false), ((false, 6), false), ((false, 7), false), ((false, 8), false), ((false, 9), false), ((false, 10), false), ((false, 11), false), ((false, 12), false)]),
    (4, [((false, 1), true), ((false, 2), false), ((false, 3), false), ((false, 4), true), ((false, 5), false), ((false, 6), false), ((false, 7), false), ((false, 8), false), ((false, 9), false), ((false, 10), false), ((false, 11), false), ((false, 12), false)]),
    (5, [((false, 1), true), ((false, 2), false), ((false, 3), false), ((false, 4), false), ((false, 5), true), ((false, 6), false), ((false, 7), false), ((false, 8), false), ((false, 9), false), ((false, 10), false), ((false, 11), false), ((false, 12), false)]),
    (6, [((false, 1), true), ((false, 2), false), ((false, 3), false), ((false, 4), false), ((false, 5), false), ((false, 6), true), ((false, 7), false), ((false, 8), false), ((false, 9), false), ((false, 10), false), ((false, 11), false), ((false, 12), false)]),
    (7, [((false, 1), true), ((false, 2), false), ((false, 3), false), ((false, 4), false), ((false, 5), false), ((false, 6), false), ((false, 7), true), ((false, 8), false), ((false, 9), false), ((false, 10), false), ((false, 11), false), ((false, 12), false)]),
    (8, [((false, 1), true), ((false, 2), false), ((false, 3), false), ((false, 4), false), ((false, 5), false), ((false, 6), false), ((false, 7), false), ((false, 8), true), ((false, 9), false), ((false, 10), false), ((false, 11), false), ((false, 12), false)]),
    (9, [((false, 1), false), ((false, 2), false), ((false, 3), false), ((false, 4), false), ((false, 5), false), ((false, 6), false), ((false, 7), false), ((false, 8), false), ((false, 9), true), ((false, 10), false), ((false, 11), false), ((false, 12), false)]),
    (10, [((false, 1), false), ((false, 2), false), ((false, 3), false), ((false, 4), false), ((false, 5), false), ((false, 6), false), ((false, 7), false), ((false, 8), false), ((false, 9), true), ((false, 10), true), ((false, 11), false), ((false, 12), false)]),
    (11, [((false, 1), false), ((false, 2), false), ((false, 3), false), ((false, 4), false), ((false, 5), false), ((false, 6), false), ((false, 7), false), ((false, 8), false), ((false, 9), false), ((false, 10), false), ((false, 11), true), ((false, 12), false)]),
    (12, [((false, 1), false), ((false, 2), false), ((false, 3), false), ((false, 4), false), ((false, 5), false), ((false, 6), false), ((false, 7), false), ((false, 8), false), ((false, 9), false), ((false, 10), false), ((false, 11), true), ((false, 12), true)])]
  xfl := [(2, 4), (3, 4), (4, 4), (5, 4), (6, 4), (7, 5), (8, 5), (10, 4), (12, 6)]
  file := "/claim/cut.py"
  dvs := [(195, 105)]
  cats := [(9, 8, [1, 2, 3, 4, 5, 6, 7, 8, 9, 10, 11, 12])]
  xhs := [(1, [1, 2, 3, 4, 5, 6, 7, 8])]
def gm : Gam := tab.gamW .cold [] [] []
abbrev T : List FnI := mkT (tab.gam 400 L) 400 L
theorem txt : txtB tab L = true := by decide +kernel
abbrev Rw : PySem.W.OpenRow := PySem.W.OpenLaw.row PySem.Challenge.rw_offerlists_k04_house_texts_read
def ob (s : PySem.W.SharedT) : (He.AlD × Bool) × Bool := obsOG 5 tab L (HandSHeadRun.getT s)
theorem ob_eq (s : PySem.W.SharedT) : ob s = (hookO 5 tab L).obs s.abs := obsOG_eq (HandSHeadRun.getT_eq s)
def loose : List Str := (["NotRight", "InvalidWave", "InvalidDays", "InvalidWord", "InvalidText", "NotAHouse", "InvalidEntries", "InvalidEvents", "NotThere", "UnknownName", "CannotBe", "TooManyAhead", "MOST_WAVE", "MOST_DAYS", "WORDS", "is_integer", "is_between", "DIGITS", "is_word", "House", "_law_number", "_law_purse", "_law_pick", "_law_rules", "_law_house_text", "_law_error", "_law_caught", "_law_due", "_law_bent", "_law_reads", "_law_right"] : List String).map PySem.Str.ofString
end Lw
set_option maxRecDepth 100000
set_option maxHeartbeats 0
namespace Lw
open PySem OL
/-- _law_error, in a handler -/
def h8 : SD := (sSeq
    (sAsg (dLst false [(dN (bIsi gm.isa gm.xi) [(dV 0), (dK (.cls 2))]), (dN (bIsi gm.isa gm.xi) [(dV 0), (dK (.cls 3))]), (dN (bIsi gm.isa gm.xi) [(dV 0), (dK (.cls 4))])]) (gNm 1)) (sSeq
    (sAsg (d2 oAdd (dV 1) (dLst false [(dN (bIsi gm.isa gm.xi) [(dV 0), (dK (.cls 5))]), (dN (bIsi gm.isa gm.xi) [(dV 0), (dK (.cls 6))]), (dN (bIsi gm.isa gm.xi) [(dV 0), (dK (.cls 7))])])) (gNm 1)) (sSeq
    (sAsg (d2 oAdd (dV 1) (dLst false [(dN (bIsi gm.isa gm.xi) [(dV 0), (dK (.cls 8))]), (dN (bIsi gm.isa gm.xi) [(dV 0), (dK (.cls 10))]), (dN (bIsi gm.isa gm.xi) [(dV 0), (dK (.cls 12))])])) (gNm 1)) (sSeq
    (sAsg (dLst false [(dN (bIsi gm.isa gm.xi) [(dV 0), (dK (.cls 1))]), (dN (bIsi gm.isa gm.xi) [(dV 0), (dK (.cls 9))]), (dN (bIsi gm.isa gm.xi) [(dV 0), (dK (.cls 11))])]) (gNm 2)) (sSeq
    (sIf (tBl (d2 oNe (dLM oCount (dV 1) (dK (.bl true))) (dK (.int 1)))) (sSeq
    (sRet (dLst false [(dK (.str ⟨#[97, 110, 111, 116, 104, 101, 114, 32, 101, 114, 114, 111, 114]⟩)), (dK (.str ⟨#[]⟩))])) sNil) sNil) (sSeq
    (sAsg (dLM oIndex (dV 1) (dK (.bl true))) (gNm 3)) (sSeq
    (sIf (tBl (d2 oNe (dV 2) (dLst false [(d2 oLt (dV 3) (dK (.int 7))), (d2 oEq (dV 3) (dK (.int 7))), (d2 oEq (dV 3) (dK (.int 8)))]))) (sSeq
    (sRet (dLst false [(dK (.str ⟨#[97, 110, 111, 116, 104, 101, 114, 32, 98, 97, 115, 101]⟩)), (dK (.str ⟨#[]⟩))])) sNil) sNil) (sSeq
    (sAsg (d2 oIx (dLst false [(dK (.str ⟨#[119, 97, 118, 101]⟩)), (dK (.str ⟨#[100, 97, 121, 115]⟩)), (dK (.str ⟨#[119, 111, 114, 100]⟩)), (dK (.str ⟨#[116, 101, 120, 116]⟩)), (dK (.str ⟨#[104, 111, 117, 115, 101]⟩)), (dK (.str ⟨#[101, 110, 116, 114, 105, 101, 115]⟩)), (dK (.str ⟨#[101, 118, 101, 110, 116, 115]⟩)), (dK (.str ⟨#[110, 97, 109, 101]⟩)), (dK (.str ⟨#[109, 97, 110, 121]⟩))]) (dV 3)) (gNm 4)) (sSeq
    (sIf (tBl (d2 oIn (dV 3) (dLst false [(dK (.int 5)), (dK (.int 6))]))) (sSeq
    (sRet (dLst false [(dV 4), (dN bRepr [(dAttr gm.b 5 (dV 0))])])) sNil) sNil) (sSeq
    (sRet (dLst false [(dV 4), (dNF (bOwn gm.ownB gm.b 4 bRepr) [(tIfE (tBl (d2 oEq (dV 3) (dK (.int 8)))) (dAttr gm.b 6 (dV 0)) (dAttr gm.b 4 (dV 0)))])])) sNil))))))))))
def TH2 : List FnI := [⟨s0.ps, s0.N, denB (tab.gamW .hot [] [] []) 400 s0.sc s0.d.body⟩, ⟨s1.ps, s1.N, denB (tab.gamW .hot [] [] []) 400 s1.sc s1.d.body⟩, ⟨s2.ps, s2.N, denB (tab.gamW .hot [] [] []) 400 s2.sc s2.d.body⟩, ⟨s3.ps, s3.N, denB (tab.gamW .hot [] [] []) 400 s3.sc s3.d.body⟩, ⟨s4.ps, s4.N, denB (tab.gamW .hot [] [] []) 400 s4.sc s4.d.body⟩, ⟨s5.ps, s5.N, denB (tab.gamW .hot [] [] []) 400 s5.sc s5.d.body⟩, ⟨s6.ps, s6.N, denB (tab.gamW .hot [] [] []) 400 s6.sc s6.d.body⟩, ⟨s7.ps, s7.N, denB (tab.gamW .hot [] [] []) 400 s7.sc s7.d.body⟩, ⟨s8.ps, s8.N, h8⟩, ⟨s9.ps, s9.N, denB (tab.gamW .hot [] [] []) 400 s9.sc s9.d.body⟩, ⟨s10.ps, s10.N, denB (tab.gamW .hot [] [] []) 400 s10.sc s10.d.body⟩, ⟨s11.ps, s11.N, denB (tab.gamW .hot [] [] []) 400 s11.sc s11.d.body⟩, ⟨s12.ps, s12.N, denB (tab.gamW .hot [] [] []) 400 s12.sc s12.d.body⟩, ⟨s13.ps, s13.N, denB (tab.gamW .hot [] [] []) 400 s13.sc s13.d.body⟩, ⟨s14.ps, s14.N, denB (tab.gamW .hot [] [] []) 400 s14.sc s14.d.body⟩, ⟨s15.ps, s15.N, denB (tab.gamW .hot [] [] []) 400 s15.sc s15.d.body⟩, ⟨s16.ps, s16.N, denB (tab.gamW .hot [] [] []) 400 s16.sc s16.d.body⟩, ⟨s17.ps, s17.N, denB (tab.gamW .hot [] [] []) 400 s17.sc s17.d.body⟩, ⟨s18.ps, s18.N, denB (tab.gamW .hot [] [] []) 400 s18.sc s18.d.body⟩, ⟨s19.ps, s19.N, denB (tab.gamW .hot [] [] []) 400 s19.sc s19.d.body⟩]
/-- is_integer, in a try -/
def n0 : SD := (sSeq
    (sRet (dAnd (dN (bIsi gm.isa gm.xi) [(dV 0), (dK (.ty 0))]) (dNot (dN (bIsi gm.isa gm.xi) [(dV 0), (dK (.ty 1))])))) sNil)
/-- is_between, in a try -/
def n1 : SD := (sSeq
    (sRet (dAnd (dCall 0 [(dV 0)]) (dChain oLe oLe (dV 1) (dV 0) (dV 2)))) sNil)
/-- is_word, in a try -/
def n2 : SD := (sSeq
    (sRet (dAnd (dN (bIsi gm.isa gm.xi) [(dV 0), (dK (.ty 2))]) (d2 oIn (dV 0) (dK (.kt [(.str ⟨#[107, 101, 101, 112]⟩), (.str ⟨#[98, 97, 99, 107]⟩), (.str ⟨#[111, 117, 116]⟩)]))))) sNil)
/-- _law_number, in a try -/
def n3 : SD := (sSeq
    (sIf (tBl (d2 oLt (dV 1) (dN bLen [(dV 0)]))) (sSeq
    (sRet (d2 oIx (dV 0) (dV 1))) sNil) sNil) (sSeq
    (sAsg (d2 oMod (dN bInt [(d2 oMul (dK (.int 61343)) (d2 oAdd (d2 oAdd (d2 oMul (dV 1) (dV 1)) (d2 oMul (dK (.int 5)) (dV 1))) (dK (.int 17))))]) (dK (.int 2147483587))) (gNm 2)) (sSeq
    (sFor (dSrc (dCut false (dV 0) none (some (dK (.int 3))))) (gNm 3) (sSeq
    (sAsg (d2 oMod (dN bInt [(d2 oAdd (d2 oMul (dV 2) (dK (.int 40487))) (dV 3))]) (dK (.int 2147483587))) (gNm 2)) sNil)) (sSeq
    (sRet (dV 2)) sNil))))
/-- _law_purse, in a try -/
def n4 : SD := (sSeq
    (sAsg (tIfE (tOrT (tBl (d2 oLt (dV 0) (dK (.int 0)))) (tBl (d2 oGe (dV 0) (d2 oPow (dK (.int 10)) (dK (.int 18)))))) (dN bAbs [(dV 0)]) (dK (.int 0))) (gNm 1)) (sSeq
    (sRet (dLst true [(d2 oMod (dN bInt [(dV 0)]) (dK (.int 2147483629))), (dV 1), (dK (.int 0))])) sNil))
/-- _law_pick, in a try -/
def n5 : SD := (sSeq
    (sSub (dV 0) (dK (.int 2)) (d2 oAdd (d2 oIx (dV 0) (dK (.int 2))) (dK (.int 1)))) (sSeq
    (sPar 3 4 (dN bInt [(d2 oIx (dV 0) (dK (.int 0)))]) (d2 oIx (dV 0) (dK (.int 2)))) (sSeq
    (sAsg (d2 oMul (d2 oAdd (dV 3) (d2 oMul (dK (.int 6997)) (dV 4))) (d2 oAdd (d2 oMod (dN bInt [(dV 3)]) (dK (.int 44497))) (dK (.int 21001)))) (gNm 2)) (sSeq
    (sSub (dV 0) (dK (.int 0)) (d2 oMod (dN bInt [(d2 oAdd (d2 oAdd (dV 2) (d2 oMul (dK (.int 70001)) (dV 4))) (dK (.int 5)))]) (dK (.int 2147483629)))) (sSeq
    (sIf (tBl (d2 oGt (d2 oIx (dV 0) (dK (.int 1))) (dK (.int 0)))) (sSeq
    (sAsg (dN bDivmod [(d2 oIx (dV 0) (dK (.int 1))), (dV 1)]) (gTq [(gSb (dV 0) (dK (.int 1))), (gNm 5)])) (sSeq
    (sRet (dV 5)) sNil)) sNil) (sSeq
    (sRet (d2 oMod (dN bInt [(d2 oFdiv (d2 oIx (dV 0) (dK (.int 0))) (dK (.int 128)))]) (dV 1))) sNil))))))
/-- _law_rules, in a try -/
def n6 : SD := (sSeq
    (sAsg (dLst false [(dK (.str ⟨#[107, 101, 101, 112]⟩)), (dK (.str ⟨#[98, 97, 99, 107]⟩)), (dK (.str ⟨#[111, 117, 116]⟩))]) (gNm 2)) (sSeq
    (sAsg (dLst true [(d2 oAdd (dK (.int 1)) (dCall 5 [(dV 0), (dK (.int 3))])), (d2 oAdd (dK (.int 1)) (dCall 5 [(dV 0), (dV 1)]))]) (gNm 3)) (sSeq
    (sEx (dLM oAppend (dV 3) (d2 oIx (dV 2) (dCall 5 [(dV 0), (dK (.int 3))])))) (sSeq
    (sRet (dTup [(d2 oIx (dV 3) (dK (.int 0))), (d2 oIx (dV 3) (dK (.int 1))), (d2 oIx (dV 3) (dK (.int 2))), (d2 oIx (dV 2) (dCall 5 [(dV 0), (dK (.int 3))]))])) sNil))))
/-- _law_house_text, in a try -/
def n7 : SD := (sSeq
    (sAsg (d2 oAdd (d2 oAdd (d2 oAdd (dK (.str ⟨#[104, 111, 117, 115, 101, 32, 119, 97, 118, 101, 32]⟩)) (dN bStr [(d2 oIx (dV 0) (dK (.int 0)))])) (dK (.str ⟨#[32, 100, 97, 121, 115, 32]⟩))) (dN bStr [(d2 oIx (dV 0) (dK (.int 1)))])) (gNm 1)) (sSeq
    (sRet (d2 oAdd (d2 oAdd (d2 oAdd (d2 oAdd (dV 1) (dK (.str ⟨#[32, 115, 105, 108, 101, 110, 116, 32]⟩))) (d2 oIx (dV 0) (dK (.int 2)))) (dK (.str ⟨#[32, 100, 101, 99, 108, 105, 110, 101, 100, 32]⟩))) (d2 oIx (dV 0) (dK (.int 3))))) sNil))
/-- _law_error, in a try -/
def n8 : SD := (sSeq
    (sAsg (dLst false [(dN (bIsi gm.isa gm.xi) [(dV 0), (dK (.cls 2))]), (dN (bIsi gm.isa gm.xi) [(dV 0), (dK (.cls 3))]), (dN (bIsi gm.isa gm.xi) [(dV 0), (dK (.cls 4))])]) (gNm 1)) (sSeq
    (sAsg (d2 oAdd (dV 1) (dLst false [(dN (bIsi gm.isa gm.xi) [(dV 0), (dK (.cls 5))]), (dN (bIsi gm.isa gm.xi) [(dV 0), (dK (.cls 6))]), (dN (bIsi gm.isa gm.xi) [(dV 0), (dK (.cls 7))])])) (gNm 1)) (sSeq
    (sAsg (d2 oAdd (dV 1) (dLst false [(dN (bIsi gm.isa gm.xi) [(dV 0), (dK (.cls 8))]), (dN (bIsi gm.isa gm.xi) [(dV 0), (dK (.cls 10))]), (dN (bIsi gm.isa gm.xi) [(dV 0), (dK (.cls 12))])])) (gNm 1)) (sSeq
    (sAsg (dLst false [(dN (bIsi gm.isa gm.xi) [(dV 0), (dK (.cls 1))]), (dN (bIsi gm.isa gm.xi) [(dV 0), (dK (.cls 9))]), (dN (bIsi gm.isa gm.xi) [(dV 0), (dK (.cls 11))])]) (gNm 2)) (sSeq
    (sIf (tBl (d2 oNe (dLM oCount (dV 1) (dK (.bl true))) (dK (.int 1)))) (sSeq
    (sRet (dLst false [(dK (.str ⟨#[97, 110, 111, 116, 104, 101, 114, 32, 101, 114, 114, 111, 114]⟩)), (dK (.str ⟨#[]⟩))])) sNil) sNil) (sSeq
    (sAsg (dLM oIndex (dV 1) (dK (.bl true))) (gNm 3)) (sSeq
    (sIf (tBl (d2 oNe (dV 2) (dLst false [(d2 oLt (dV 3) (dK (.int 7))), (d2 oEq (dV 3) (dK (.int 7))), (d2 oEq (dV 3) (dK (.int 8)))]))) (sSeq
    (sRet (dLst false [(dK (.str ⟨#[97, 110, 111, 116, 104, 101, 114, 32, 98, 97, 115, 101]⟩)), (dK (.str ⟨#[]⟩))])) sNil) sNil) (sSeq
    (sAsg (d2 oIx (dLst false [(dK (.str ⟨#[119, 97, 118, 101]⟩)), (dK (.str ⟨#[100, 97, 121, 115]⟩)), (dK (.str ⟨#[119, 111, 114, 100]⟩)), (dK (.str ⟨#[116, 101, 120, 116]⟩)), (dK (.str ⟨#[104, 111, 117, 115, 101]⟩)), (dK (.str ⟨#[101, 110, 116, 114, 105, 101, 115]⟩)), (dK (.str ⟨#[101, 118, 101, 110, 116, 115]⟩)), (dK (.str ⟨#[110, 97, 109, 101]⟩)), (dK (.str ⟨#[109, 97, 110, 121]⟩))]) (dV 3)) (gNm 4)) (sSeq
    (sIf (tBl (d2 oIn (dV 3) (dLst false [(dK (.int 5)), (dK (.int 6))]))) (sSeq
    (sRet (dLst false [(dV 4), (dN bRepr [(dAttr gm.b 5 (dV 0))])])) sNil) sNil) (sSeq
    (sRet (dLst false [(dV 4), (dNF (bOwn gm.ownB gm.b 4 bRepr) [(tIfE (tBl (d2 oEq (dV 3) (dK (.int 8)))) (dAttr gm.b 6 (dV 0)) (dAttr gm.b 4 (dV 0)))])])) sNil))))))))))
/-- _law_caught, in a try -/
def n9 : SD := (sSeq
    (sTry (sSeq
    (sAsg (dNewV false gm.ini gm.sgf (dV 0) [] [] []) (gNm 2)) sNil) sNil) (sSeq
    (sRet (dLst false [(dK (.str ⟨#[116, 111, 108, 100]⟩)), (dN bRepr [(dV 2)])])) sNil))
/-- _law_due, in a try -/
def n10 : SD := (sSeq
    (sPar 1 2 (dSM (oSplit false) (dV 0) (dK (.str ⟨#[32]⟩))) (dLst false [(dK (.str ⟨#[104, 111, 117, 115, 101]⟩)), (dK (.str ⟨#[119, 97, 118, 101]⟩)), (dK (.str ⟨#[100, 97, 121, 115]⟩)), (dK (.str ⟨#[115, 105, 108, 101, 110, 116]⟩)), (dK (.str ⟨#[100, 101, 99, 108, 105, 110, 101, 100]⟩))])) (sSeq
    (sIf (tOrT (tBl (d2 oNe (dN bLen [(dV 1)]) (dK (.int 9)))) (tBl (d2 oNe (dLst false [(d2 oIx (dV 1) (dK (.int 0))), (d2 oIx (dV 1) (dK (.int 1))), (d2 oIx (dV 1) (dK (.int 3))), (d2 oIx (dV 1) (dK (.int 5))), (d2 oIx (dV 1) (dK (.int 7)))]) (dV 2)))) (sSeq
    (sRet (dLst false [(dK (.str ⟨#[116, 101, 120, 116]⟩)), (dN bRepr [(dV 0)])])) sNil) sNil) (sSeq
    (sIf (tOrT (tBl (d2 oNe (dN bLen [(d2 oIx (dV 1) (dK (.int 2)))]) (dK (.int 1)))) (tOrT (tBl (d2 oNotIn (d2 oIx (dV 1) (dK (.int 2))) (dK (.str ⟨#[49, 50, 51]⟩)))) (tOrT (tBl (d2 oNe (dN bLen [(d2 oIx (dV 1) (dK (.int 4)))]) (dK (.int 1)))) (tBl (d2 oNotIn (d2 oIx (dV 1) (dK (.int 4))) (dK (.str ⟨#[49, 50, 51, 52, 53, 54, 55, 56, 57]⟩))))))) (sSeq
    (sRet (dLst false [(dK (.str ⟨#[116, 101, 120, 116]⟩)), (dN bRepr [(dV 0)])])) sNil) sNil) (sSeq
    (sIf (tOrT (tBl (d2 oNotIn (d2 oIx (dV 1) (dK (.int 6))) (dLst false [(dK (.str ⟨#[107, 101, 101, 112]⟩)), (dK (.str ⟨#[98, 97, 99, 107]⟩)), (dK (.str ⟨#[111, 117, 116]⟩))]))) (tBl (d2 oNotIn (d2 oIx (dV 1) (dK (.int 8))) (dLst false [(dK (.str ⟨#[107, 101, 101, 112]⟩)), (dK (.str ⟨#[98, 97, 99, 107]⟩)), (dK (.str ⟨#[111, 117, 116]⟩))])))) (sSeq
    (sRet (dLst false [(dK (.str ⟨#[116, 101, 120, 116]⟩)), (dN bRepr [(dV 0)])])) sNil) sNil) (sSeq
    (sRet (dLst false [(dK (.str ⟨#[116, 111, 108, 100]⟩)), (dN bRepr [(dV 0)])])) sNil)))))
/-- _law_bent, in a try -/
def n11 : SD := (sSeq
    (sAsg (dK (.str ⟨#[32, 10, 48, 49, 50, 51, 52, 53, 54, 55, 56, 57, 97, 98, 99, 100, 101, 102, 103, 104, 105, 106, 107, 108, 109, 110, 111, 112, 113, 114, 115, 116, 117, 118, 119, 120, 121, 122, 65, 66, 72, 75, 79, 87, 88, 90, 43, 45, 58, 59, 44, 39, 40, 41]⟩)) (gNm 2)) (sSeq
    (sPar3 5 6 7 (dCall 5 [(dV 0), (dK (.int 8))]) (dCall 5 [(dV 0), (d2 oAdd (dN bLen [(dV 1)]) (dK (.int 1)))]) (d2 oIx (dV 2) (dCall 5 [(dV 0), (dN bLen [(dV 2)])]))) (sSeq
    (sIf (tBl (d2 oLt (dV 5) (dK (.int 3)))) (sSeq
    (sRet (d2 oIx (dLst false [(d2 oAdd (d2 oAdd (dCut false (dV 1) none (some (dV 6))) (dV 7)) (dCut false (dV 1) (some (dV 6)) none)), (d2 oAdd (dCut false (dV 1) none (some (dV 6))) (dCut false (dV 1) (some (d2 oAdd (dV 6) (dK (.int 1)))) none)), (d2 oAdd (d2 oAdd (dCut false (dV 1) none (some (dV 6))) (dV 7)) (dCut false (dV 1) (some (d2 oAdd (dV 6) (dK (.int 1)))) none))]) (dV 5))) sNil) sNil) (sSeq
    (sAsg (dSM (oSplit true) (dV 1) (dK (.str ⟨#[32]⟩))) (gNm 3)) (sSeq
    (sPar 8 9 (dCall 5 [(dV 0), (dN bLen [(dV 3)])]) (dCall 5 [(dV 0), (dN bLen [(dV 3)])])) (sSeq
    (sIf (tBl (d2 oEq (dV 5) (dK (.int 3)))) (sSeq
    (sRet (dSM oJoin (dK (.str ⟨#[32]⟩)) (d2 oAdd (dCut false (dV 3) none (some (dV 8))) (dCut false (dV 3) (some (d2 oAdd (dV 8) (dK (.int 1)))) none)))) sNil) sNil) (sSeq
    (sIf (tBl (d2 oEq (dV 5) (dK (.int 4)))) (sSeq
    (sRet (dSM oJoin (dK (.str ⟨#[32]⟩)) (d2 oAdd (dCut false (dV 3) none (some (d2 oAdd (dV 8) (dK (.int 1))))) (dCut false (dV 3) (some (dV 8)) none)))) sNil) sNil) (sSeq
    (sIf (tBl (d2 oEq (dV 5) (dK (.int 5)))) (sSeq
    (sAsg (dTup [(d2 oIx (dV 3) (dV 9)), (d2 oIx (dV 3) (dV 8))]) (gTp [(gSb (dV 3) (dV 8)), (gSb (dV 3) (dV 9))])) (sSeq
    (sRet (dSM oJoin (dK (.str ⟨#[32]⟩)) (dV 3))) sNil)) sNil) (sSeq
    (sIf (tBl (d2 oEq (dV 5) (dK (.int 6)))) (sSeq
    (sRet (d2 oIx (dLst false [(d2 oAdd (dV 1) (dK (.str ⟨#[32]⟩))), (d2 oAdd (dK (.str ⟨#[32]⟩)) (dV 1)), (d2 oAdd (dV 1) (dK (.str ⟨#[10]⟩))), (d2 oAdd (dK (.str ⟨#[10]⟩)) (dV 1)), (d2 oAdd (dV 1) (dV 1))]) (dCall 5 [(dV 0), (dK (.int 5))]))) sNil) sNil) (sSeq
    (sAsg (d2 oAdd (dSM (oSplit false) (dK (.str ⟨#[49, 32, 50, 32, 51, 32, 52, 32, 57, 32, 49, 48, 32, 48, 32, 48, 49, 32, 48, 57, 32, 45, 49, 32, 43, 50, 32, 107, 101, 101, 112, 32, 98, 97, 99, 107, 32, 111, 117, 116, 32, 107, 101, 101, 112, 115, 32, 66, 97, 99, 107, 32, 104, 111, 117, 115, 101, 32, 119, 97, 118, 101, 32, 100, 97, 121, 115, 32, 115, 105, 108, 101, 110, 116, 32, 100, 101, 99, 108, 105, 110, 101, 100]⟩)) (dK (.str ⟨#[32]⟩))) (dLst false [(dK (.str ⟨#[]⟩))])) (gNm 4)) (sSeq
    (sRet (dSM oJoin (dK (.str ⟨#[32]⟩)) (d2 oAdd (d2 oAdd (dCut false (dV 3) none (some (dV 8))) (dLst false [(d2 oIx (dV 4) (dCall 5 [(dV 0), (dN bLen [(dV 4)])]))])) (dCut false (dV 3) (some (d2 oAdd (dV 8) (dK (.int 1)))) none)))) sNil)))))))))))
/-- _law_reads, in a try -/
def n12 : SD := (sSeq
    (sAsg (dCall 10 [(dV 0)]) (gNm 1)) (sSeq
    sNever (sSeq
    (sIf (tBl (d2 oNe (d2 oIx (dV 1) (dK (.int 0))) (dK (.str ⟨#[116, 111, 108, 100]⟩)))) (sSeq
    (sRet (dK (.bl true))) sNil) sNil) (sSeq
    (sPar 2 3 (dSM (oSplit false) (dV 0) (dK (.str ⟨#[32]⟩))) (dMethK gm.b gm.cm gm.sgf 1 (dK (.cls 0)) [] [(dV 0)] [⟨#[116, 101, 120, 116]⟩])) (sSeq
    (sRet (dAnd (d2F (cmpO gm.ownB gm.b 2 false) (dV 3) (dNew false 0 15 [(dN bInt [(d2 oIx (dV 2) (dK (.int 2)))]), (dN bInt [(d2 oIx (dV 2) (dK (.int 4)))]), (d2 oIx (dV 2) (dK (.int 6))), (d2 oIx (dV 2) (dK (.int 8)))])) (dN (bIsi gm.isa gm.xi) [(dAttr gm.b 0 (dV 3)), (dK (.ty 0))]))) sNil)))))
/-- _law_right, in a try -/
def n13 : SD := (sSeq
    (sAsg (dCall 7 [(dCall 6 [(dV 0), (dK (.int 9))])]) (gNm 1)) (sSeq
    (sIf (tNotT (tVal (dCall 12 [(dV 1)]))) (sSeq
    (sRet (dK (.bl false))) sNil) sNil) (sSeq
    (sFor (dRng1 (dK (.int 4))) (gNm 2) (sSeq
    (sAsg (dCall 11 [(dV 0), (dV 1)]) (gNm 1)) (sSeq
    (sIf (tNotT (tVal (dCall 12 [(dV 1)]))) (sSeq
    (sRet (dK (.bl false))) sNil) sNil) sNil))) (sSeq
    (sRet (dK (.bl true))) sNil))))
/-- law, in a try -/
def n14 : SD := (sSeq
    (sFor (dSrc (dLst false [(dK .non), (dK (.int 0)), (dK (.bl true)), (dTup []), (dTup [(dK (.str ⟨#[104, 111, 117, 115, 101]⟩))]), (dLst false [(dK (.str ⟨#[104, 111, 117, 115, 101, 32, 119, 97, 118, 101, 32, 49, 32, 100, 97, 121, 115, 32, 49, 32, 115, 105, 108, 101, 110, 116, 32, 107, 101, 101, 112, 32, 100, 101, 99, 108, 105, 110, 101, 100, 32, 107, 101, 101, 112]⟩))]), (dDictV [] []), (dNewK false 0 15 [(dK (.int 1)), (dK (.int 1))] [.a 0, .a 1, .d (.str ⟨#[107, 101, 101, 112]⟩), .d (.str ⟨#[107, 101, 101, 112]⟩)])])) (gNm 1) (sSeq
    sNever sNil)) (sSeq
    (sFor (dSrc (dLst false [(dK (.str ⟨#[]⟩)), (dK (.str ⟨#[32]⟩)), (dK (.str ⟨#[104, 111, 117, 115, 101]⟩)), (dK (.str ⟨#[104, 111, 117, 115, 101, 32, 119, 97, 118, 101, 32, 49, 32, 100, 97, 121, 115, 32, 49]⟩)), (dK (.str ⟨#[104, 111, 117, 115, 101, 32, 119, 97, 118, 101, 32, 49, 50, 32, 100, 97, 121, 115, 32, 51, 32, 115, 105, 108, 101, 110, 116, 32, 107, 101, 101, 112, 32, 100, 101, 99, 108, 105, 110, 101, 100, 32, 107, 101, 101, 112]⟩))])) (gNm 2) (sSeq
    (sIf (tNotT (tVal (dCall 12 [(dV 2)]))) (sSeq
    (sRet (dK (.bl false))) sNil) sNil) sNil)) (sSeq
    (sFor (dRng1 (dN bMax [(dK (.int 2)), (dN bMin [(dN bLen [(dV 0)]), (dK (.int 8))])])) (gNm 3) (sSeq
    (sAsg (dCall 4 [(dCall 3 [(dV 0), (dV 3)])]) (gNm 4)) (sSeq
    (sIf (tNotT (tVal (dN bAll [(dComp false (dRng1 (dK (.int 4))) [5] (.nm 5) tYesT (dCall 13 [(dV 4)]))]))) (sSeq
    (sRet (dK (.bl false))) sNil) sNil) sNil))) (sSeq
    (sRet (dK (.bl true))) sNil))))
/-- House.__init__, in a try -/
def n15 : SD := (sSeq
    (sIf (tNotT (tVal (dCall 1 [(dV 1), (dK (.int 1)), (dK (.int 3))]))) (sSeq
    (sRaise (dXNew 2 [4] [(dV 1)] [.a 0])) sNil) sNil) (sSeq
    (sIf (tNotT (tVal (dCall 1 [(dV 2), (dK (.int 1)), (dK (.int 9))]))) (sSeq
    (sRaise (dXNew 3 [4] [(dV 2)] [.a 0])) sNil) sNil) (sSeq
    (sIf (tNotT (tVal (dCall 2 [(dV 3)]))) (sSeq
    (sRaise (dXNew 4 [4] [(dV 3)] [.a 0])) sNil) sNil) (sSeq
    (sIf (tNotT (tVal (dCall 2 [(dV 4)]))) (sSeq
    (sRaise (dXNew 4 [4] [(dV 4)] [.a 0])) sNil) sNil) (sSeq
    (sSetAt gm.b (dV 0) 0 (dV 1)) (sSeq
    (sSetAt gm.b (dV 0) 1 (dV 2)) (sSeq
    (sSetAt gm.b (dV 0) 2 (dV 3)) (sSeq
    (sSetAt gm.b (dV 0) 3 (dV 4)) sNil))))))))
/-- House.read, in a try -/
def n16 : SD := (sSeq
    (sAsg (tIfE (tVal (dN (bIsi gm.isa gm.xi) [(dV 1), (dK (.ty 2))])) (dSM (oSplit false) (dV 1) (dK (.str ⟨#[32]⟩))) (dLst false [])) (gNm 2)) (sSeq
    (sIf (tBl (d2 oNe (dN bLen [(dV 2)]) (dK (.int 9)))) (sSeq
    (sRaise (dXNew 5 [4] [(dV 1)] [.a 0])) sNil) sNil) (sSeq
    (sTry (sSeq
    (sAsg (dNewV false gm.ini gm.sgf (dV 0) [(dSM oFind (dK (.str ⟨#[48, 49, 50, 51, 52, 53, 54, 55, 56, 57]⟩)) (d2 oIx (dV 2) (dK (.int 2)))), (dSM oFind (dK (.str ⟨#[48, 49, 50, 51, 52, 53, 54, 55, 56, 57]⟩)) (d2 oIx (dV 2) (dK (.int 4)))), (d2 oIx (dV 2) (dK (.int 6))), (d2 oIx (dV 2) (dK (.int 8)))] [] []) (gNm 3)) sNil) sNil) (sSeq
    (sIf (tBl (d2F (cmpO gm.ownB gm.b 2 true) (dNF (bOwn gm.ownB gm.b 3 bStr) [(dV 3)]) (dV 1))) (sSeq
    (sRaise (dXNew 5 [4] [(dV 1)] [.a 0])) sNil) sNil) (sSeq
    (sRet (dV 3)) sNil)))))
/-- House.__eq__, in a try -/
def n17 : SD := (sSeq
    (sRet (dAnd (dN (bIsi gm.isa gm.xi) [(dV 1), (dK (.cls 0))]) (d2F (cmpO gm.ownB gm.b 2 false) (dNF (bOwn gm.ownB gm.b 3 bStr) [(dV 0)]) (dNF (bOwn gm.ownB gm.b 3 bStr) [(dV 1)])))) sNil)
/-- House.__str__, in a try -/
def n18 : SD := (sSeq
    (sRet (dJs [(dK (.str ⟨#[104, 111, 117, 115, 101, 32, 119, 97, 118, 101, 32]⟩)), (d1 oFmt (dAttr gm.b 0 (dV 0))), (dK (.str ⟨#[32, 100, 97, 121, 115, 32]⟩)), (d1 oFmt (dAttr gm.b 1 (dV 0))), (dK (.str ⟨#[32, 115, 105, 108, 101, 110, 116, 32]⟩)), (d1 oFmt (dAttr gm.b 2 (dV 0))), (dK (.str ⟨#[32, 100, 101, 99, 108, 105, 110, 101, 100, 32]⟩)), (d1 oFmt (dAttr gm.b 3 (dV 0)))] ⟨#[]⟩)) sNil)
/-- House.__repr__, in a try -/
def n19 : SD := (sSeq
    (sRet (dJs [(dK (.str ⟨#[72, 111, 117, 115, 101, 32, 111, 102, 32]⟩)), (d1 oFmt (dAttr gm.b 1 (dV 0))), (dK (.str ⟨#[32, 100, 97, 121, 115]⟩))] ⟨#[]⟩)) sNil)
def TN2 : List FnI := [⟨s0.ps, s0.N, n0⟩, ⟨s1.ps, s1.N, n1⟩, ⟨s2.ps, s2.N, n2⟩, ⟨s3.ps, s3.N, n3⟩, ⟨s4.ps, s4.N, n4⟩, ⟨s5.ps, s5.N, n5⟩, ⟨s6.ps, s6.N, n6⟩, ⟨s7.ps, s7.N, n7⟩, ⟨s8.ps, s8.N, n8⟩, ⟨s9.ps, s9.N, n9⟩, ⟨s10.ps, s10.N, n10⟩, ⟨s11.ps, s11.N, n11⟩, ⟨s12.ps, s12.N, n12⟩, ⟨s13.ps, s13.N, n13⟩, ⟨s14.ps, s14.N, n14⟩, ⟨s15.ps, s15.N, n15⟩, ⟨s16.ps, s16.N, n16⟩, ⟨s17.ps, s17.N, n17⟩, ⟨s18.ps, s18.N, n18⟩, ⟨s19.ps, s19.N, n19⟩]
/-- is_integer -/
def b0 : SD := (sSeq
    (sRet (dAnd (dN (bIsi gm.isa gm.xi) [(dV 0), (dK (.ty 0))]) (dNot (dN (bIsi gm.isa gm.xi) [(dV 0), (dK (.ty 1))])))) sNil)
/-- is_between -/
def b1 : SD := (sSeq
    (sRet (dAnd (dCall 0 [(dV 0)]) (dChain oLe oLe (dV 1) (dV 0) (dV 2)))) sNil)
/-- is_word -/
def b2 : SD := (sSeq
    (sRet (dAnd (dN (bIsi gm.isa gm.xi) [(dV 0), (dK (.ty 2))]) (d2 oIn (dV 0) (dK (.kt [(.str ⟨#[107, 101, 101, 112]⟩), (.str ⟨#[98, 97, 99, 107]⟩), (.str ⟨#[111, 117, 116]⟩)]))))) sNil)
/-- _law_number -/
def b3 : SD := (sSeq
    (sIf (tBl (d2 oLt (dV 1) (dN bLen [(dV 0)]))) (sSeq
    (sRet (d2 oIx (dV 0) (dV 1))) sNil) sNil) (sSeq
    (sAsg (d2 oMod (dN bInt [(d2 oMul (dK (.int 61343)) (d2 oAdd (d2 oAdd (d2 oMul (dV 1) (dV 1)) (d2 oMul (dK (.int 5)) (dV 1))) (dK (.int 17))))]) (dK (.int 2147483587))) (gNm 2)) (sSeq
    (sFor (dSrc (dCut false (dV 0) none (some (dK (.int 3))))) (gNm 3) (sSeq
    (sAsg (d2 oMod (dN bInt [(d2 oAdd (d2 oMul (dV 2) (dK (.int 40487))) (dV 3))]) (dK (.int 2147483587))) (gNm 2)) sNil)) (sSeq
    (sRet (dV 2)) sNil))))
/-- _law_purse -/
def b4 : SD := (sSeq
    (sAsg (tIfE (tOrT (tBl (d2 oLt (dV 0) (dK (.int 0)))) (tBl (d2 oGe (dV 0) (d2 oPow (dK (.int 10)) (dK (.int 18)))))) (dN bAbs [(dV 0)]) (dK (.int 0))) (gNm 1)) (sSeq
    (sRet (dLst true [(d2 oMod (dN bInt [(dV 0)]) (dK (.int 2147483629))), (dV 1), (dK (.int 0))])) sNil))
/-- _law_pick -/
def b5 : SD := (sSeq
    (sSub (dV 0) (dK (.int 2)) (d2 oAdd (d2 oIx (dV 0) (dK (.int 2))) (dK (.int 1)))) (sSeq
    (sPar 3 4 (dN bInt [(d2 oIx (dV 0) (dK (.int 0)))]) (d2 oIx (dV 0) (dK (.int 2)))) (sSeq
    (sAsg (d2 oMul (d2 oAdd (dV 3) (d2 oMul (dK (.int 6997)) (dV 4))) (d2 oAdd (d2 oMod (dN bInt [(dV 3)]) (dK (.int 44497))) (dK (.int 21001)))) (gNm 2)) (sSeq
    (sSub (dV 0) (dK (.int 0)) (d2 oMod (dN bInt [(d2 oAdd (d2 oAdd (dV 2) (d2 oMul (dK (.int 70001)) (dV 4))) (dK (.int 5)))]) (dK (.int 2147483629)))) (sSeq
    (sIf (tBl (d2 oGt (d2 oIx (dV 0) (dK (.int 1))) (dK (.int 0)))) (sSeq
    (sAsg (dN bDivmod [(d2 oIx (dV 0) (dK (.int 1))), (dV 1)]) (gTq [(gSb (dV 0) (dK (.int 1))), (gNm 5)])) (sSeq
    (sRet (dV 5)) sNil)) sNil) (sSeq
    (sRet (d2 oMod (dN bInt [(d2 oFdiv (d2 oIx (dV 0) (dK (.int 0))) (dK (.int 128)))]) (dV 1))) sNil))))))
/-- _law_rules -/
def b6 : SD := (sSeq
    (sAsg (dLst false [(dK (.str ⟨#[107, 101, 101, 112]⟩)), (dK (.str ⟨#[98, 97, 99, 107]⟩)), (dK (.str ⟨#[111, 117, 116]⟩))]) (gNm 2)) (sSeq
    (sAsg (dLst true [(d2 oAdd (dK (.int 1)) (dCall 5 [(dV 0), (dK (.int 3))])), (d2 oAdd (dK (.int 1)) (dCall 5 [(dV 0), (dV 1)]))]) (gNm 3)) (sSeq
    (sEx (dLM oAppend (dV 3) (d2 oIx (dV 2) (dCall 5 [(dV 0), (dK (.int 3))])))) (sSeq
    (sRet (dTup [(d2 oIx (dV 3) (dK (.int 0))), (d2 oIx (dV 3) (dK (.int 1))), (d2 oIx (dV 3) (dK (.int 2))), (d2 oIx (dV 2) (dCall 5 [(dV 0), (dK (.int 3))]))])) sNil))))
/-- _law_house_text -/
def b7 : SD := (sSeq
    (sAsg (d2 oAdd (d2 oAdd (d2 oAdd (dK (.str ⟨#[104, 111, 117, 115, 101, 32, 119, 97, 118, 101, 32]⟩)) (dN bStr [(d2 oIx (dV 0) (dK (.int 0)))])) (dK (.str ⟨#[32, 100, 97, 121, 115, 32]⟩))) (dN bStr [(d2 oIx (dV 0) (dK (.int 1)))])) (gNm 1)) (sSeq
    (sRet (d2 oAdd (d2 oAdd (d2 oAdd (d2 oAdd (dV 1) (dK (.str ⟨#[32, 115, 105, 108, 101, 110, 116, 32]⟩))) (d2 oIx (dV 0) (dK (.int 2)))) (dK (.str ⟨#[32, 100, 101, 99, 108, 105, 110, 101, 100, 32]⟩))) (d2 oIx (dV 0) (dK (.int 3))))) sNil))
/-- _law_error -/
def b8 : SD := (sSeq
    (sAsg (dLst false [(dN (bIsi gm.isa gm.xi) [(dV 0), (dK (.cls 2))]), (dN (bIsi gm.isa gm.xi) [(dV 0), (dK (.cls 3))]), (dN (bIsi gm.isa gm.xi) [(dV 0), (dK (.cls 4))])]) (gNm 1)) (sSeq
    (sAsg (d2 oAdd (dV 1) (dLst false [(dN (bIsi gm.isa gm.xi) [(dV 0), (dK (.cls 5))]), (dN (bIsi gm.isa gm.xi) [(dV 0), (dK (.cls 6))]), (dN (bIsi gm.isa gm.xi) [(dV 0), (dK (.cls 7))])])) (gNm 1)) (sSeq
    (sAsg (d2 oAdd (dV 1) (dLst false [(dN (bIsi gm.isa gm.xi) [(dV 0), (dK (.cls 8))]), (dN (bIsi gm.isa gm.xi) [(dV 0), (dK (.cls 10))]), (dN (bIsi gm.isa gm.xi) [(dV 0), (dK (.cls 12))])])) (gNm 1)) (sSeq
    (sAsg (dLst false [(dN (bIsi gm.isa gm.xi) [(dV 0), (dK (.cls 1))]), (dN (bIsi gm.isa gm.xi) [(dV 0), (dK (.cls 9))]), (dN (bIsi gm.isa gm.xi) [(dV 0), (dK (.cls 11))])]) (gNm 2)) (sSeq
    (sIf (tBl (d2 oNe (dLM oCount (dV 1) (dK (.bl true))) (dK (.int 1)))) (sSeq
    (sRet (dLst false [(dK (.str ⟨#[97, 110, 111, 116, 104, 101, 114, 32, 101, 114, 114, 111, 114]⟩)), (dK (.str ⟨#[]⟩))])) sNil) sNil) (sSeq
    (sAsg (dLM oIndex (dV 1) (dK (.bl true))) (gNm 3)) (sSeq
    (sIf (tBl (d2 oNe (dV 2) (dLst false [(d2 oLt (dV 3) (dK (.int 7))), (d2 oEq (dV 3) (dK (.int 7))), (d2 oEq (dV 3) (dK (.int 8)))]))) (sSeq
    (sRet (dLst false [(dK (.str ⟨#[97, 110, 111, 116, 104, 101, 114, 32, 98, 97, 115, 101]⟩)), (dK (.str ⟨#[]⟩))])) sNil) sNil) (sSeq
    (sAsg (d2 oIx (dLst false [(dK (.str ⟨#[119, 97, 118, 101]⟩)), (dK (.str ⟨#[100, 97, 121, 115]⟩)), (dK (.str ⟨#[119, 111, 114, 100]⟩)), (dK (.str ⟨#[116, 101, 120, 116]⟩)), (dK (.str ⟨#[104, 111, 117, 115, 101]⟩)), (dK (.str ⟨#[101, 110, 116, 114, 105, 101, 115]⟩)), (dK (.str ⟨#[101, 118, 101, 110, 116, 115]⟩)), (dK (.str ⟨#[110, 97, 109, 101]⟩)), (dK (.str ⟨#[109, 97, 110, 121]⟩))]) (dV 3)) (gNm 4)) (sSeq
    (sIf (tBl (d2 oIn (dV 3) (dLst false [(dK (.int 5)), (dK (.int 6))]))) (sSeq
    (sRet (dLst false [(dV 4), (dN bRepr [(dAttr gm.b 5 (dV 0))])])) sNil) sNil) (sSeq
    (sRet (dLst false [(dV 4), (dNF (bOwn gm.ownB gm.b 4 bRepr) [(tIfE (tBl (d2 oEq (dV 3) (dK (.int 8)))) (dAttr gm.b 6 (dV 0)) (dAttr gm.b 4 (dV 0)))])])) sNil))))))))))
/-- _law_caught -/
def b9 : SD := (sSeq
    (sTry (sSeq
    (sAsg (dNewV false gm.ini gm.sgf (dV 0) [] [] []) (gNm 2)) sNil) sNil) (sSeq
    (sRet (dLst false [(dK (.str ⟨#[116, 111, 108, 100]⟩)), (dN bRepr [(dV 2)])])) sNil))
/-- _law_due -/
def b10 : SD := (sSeq
    (sPar 1 2 (dSM (oSplit false) (dV 0) (dK (.str ⟨#[32]⟩))) (dLst false [(dK (.str ⟨#[104, 111, 117, 115, 101]⟩)), (dK (.str ⟨#[119, 97, 118, 101]⟩)), (dK (.str ⟨#[100, 97, 121, 115]⟩)), (dK (.str ⟨#[115, 105, 108, 101, 110, 116]⟩)), (dK (.str ⟨#[100, 101, 99, 108, 105, 110, 101, 100]⟩))])) (sSeq
    (sIf (tOrT (tBl (d2 oNe (dN bLen [(dV 1)]) (dK (.int 9)))) (tBl (d2 oNe (dLst false [(d2 oIx (dV 1) (dK (.int 0))), (d2 oIx (dV 1) (dK (.int 1))), (d2 oIx (dV 1) (dK (.int 3))), (d2 oIx (dV 1) (dK (.int 5))), (d2 oIx (dV 1) (dK (.int 7)))]) (dV 2)))) (sSeq
    (sRet (dLst false [(dK (.str ⟨#[116, 101, 120, 116]⟩)), (dN bRepr [(dV 0)])])) sNil) sNil) (sSeq
    (sIf (tOrT (tBl (d2 oNe (dN bLen [(d2 oIx (dV 1) (dK (.int 2)))]) (dK (.int 1)))) (tOrT (tBl (d2 oNotIn (d2 oIx (dV 1) (dK (.int 2))) (dK (.str ⟨#[49, 50, 51]⟩)))) (tOrT (tBl (d2 oNe (dN bLen [(d2 oIx (dV 1) (dK (.int 4)))]) (dK (.int 1)))) (tBl (d2 oNotIn (d2 oIx (dV 1) (dK (.int 4))) (dK (.str ⟨#[49, 50, 51, 52, 53, 54, 55, 56, 57]⟩))))))) (sSeq
    (sRet (dLst false [(dK (.str ⟨#[116, 101, 120, 116]⟩)), (dN bRepr [(dV 0)])])) sNil) sNil) (sSeq
    (sIf (tOrT (tBl (d2 oNotIn (d2 oIx (dV 1) (dK (.int 6))) (dLst false [(dK (.str ⟨#[107, 101, 101, 112]⟩)), (dK (.str ⟨#[98, 97, 99, 107]⟩)), (dK (.str ⟨#[111, 117, 116]⟩))]))) (tBl (d2 oNotIn (d2 oIx (dV 1) (dK (.int 8))) (dLst false [(dK (.str ⟨#[107, 101, 101, 112]⟩)), (dK (.str ⟨#[98, 97, 99, 107]⟩)), (dK (.str ⟨#[111, 117, 116]⟩))])))) (sSeq
    (sRet (dLst false [(dK (.str ⟨#[116, 101, 120, 116]⟩)), (dN bRepr [(dV 0)])])) sNil) sNil) (sSeq
    (sRet (dLst false [(dK (.str ⟨#[116, 111, 108, 100]⟩)), (dN bRepr [(dV 0)])])) sNil)))))
/-- _law_bent -/
def b11 : SD := (sSeq
    (sAsg (dK (.str ⟨#[32, 10, 48, 49, 50, 51, 52, 53, 54, 55, 56, 57, 97, 98, 99, 100, 101, 102, 103, 104, 105, 106, 107, 108, 109, 110, 111, 112, 113, 114, 115, 116, 117, 118, 119, 120, 121, 122, 65, 66, 72, 75, 79, 87, 88, 90, 43, 45, 58, 59, 44, 39, 40, 41]⟩)) (gNm 2)) (sSeq
    (sPar3 5 6 7 (dCall 5 [(dV 0), (dK (.int 8))]) (dCall 5 [(dV 0), (d2 oAdd (dN bLen [(dV 1)]) (dK (.int 1)))]) (d2 oIx (dV 2) (dCall 5 [(dV 0), (dN bLen [(dV 2)])]))) (sSeq
    (sIf (tBl (d2 oLt (dV 5) (dK (.int 3)))) (sSeq
    (sRet (d2 oIx (dLst false [(d2 oAdd (d2 oAdd (dCut false (dV 1) none (some (dV 6))) (dV 7)) (dCut false (dV 1) (some (dV 6)) none)), (d2 oAdd (dCut false (dV 1) none (some (dV 6))) (dCut false (dV 1) (some (d2 oAdd (dV 6) (dK (.int 1)))) none)), (d2 oAdd (d2 oAdd (dCut false (dV 1) none (some (dV 6))) (dV 7)) (dCut false (dV 1) (some (d2 oAdd (dV 6) (dK (.int 1)))) none))]) (dV 5))) sNil) sNil) (sSeq
    (sAsg (dSM (oSplit true) (dV 1) (dK (.str ⟨#[32]⟩))) (gNm 3)) (sSeq
    (sPar 8 9 (dCall 5 [(dV 0), (dN bLen [(dV 3)])]) (dCall 5 [(dV 0), (dN bLen [(dV 3)])])) (sSeq
    (sIf (tBl (d2 oEq (dV 5) (dK (.int 3)))) (sSeq
    (sRet (dSM oJoin (dK (.str ⟨#[32]⟩)) (d2 oAdd (dCut false (dV 3) none (some (dV 8))) (dCut false (dV 3) (some (d2 oAdd (dV 8) (dK (.int 1)))) none)))) sNil) sNil) (sSeq
    (sIf (tBl (d2 oEq (dV 5) (dK (.int 4)))) (sSeq
    (sRet (dSM oJoin (dK (.str ⟨#[32]⟩)) (d2 oAdd (dCut false (dV 3) none (some (d2 oAdd (dV 8) (dK (.int 1))))) (dCut false (dV 3) (some (dV 8)) none)))) sNil) sNil) (sSeq
    (sIf (tBl (d2 oEq (dV 5) (dK (.int 5)))) (sSeq
    (sAsg (dTup [(d2 oIx (dV 3) (dV 9)), (d2 oIx (dV 3) (dV 8))]) (gTp [(gSb (dV 3) (dV 8)), (gSb (dV 3) (dV 9))])) (sSeq
    (sRet (dSM oJoin (dK (.str ⟨#[32]⟩)) (dV 3))) sNil)) sNil) (sSeq
    (sIf (tBl (d2 oEq (dV 5) (dK (.int 6)))) (sSeq
    (sRet (d2 oIx (dLst false [(d2 oAdd (dV 1) (dK (.str ⟨#[32]⟩))), (d2 oAdd (dK (.str ⟨#[32]⟩)) (dV 1)), (d2 oAdd (dV 1) (dK (.str ⟨#[10]⟩))), (d2 oAdd (dK (.str ⟨#[10]⟩)) (dV 1)), (d2 oAdd (dV 1) (dV 1))]) (dCall 5 [(dV 0), (dK (.int 5))]))) sNil) sNil) (sSeq
    (sAsg (d2 oAdd (dSM (oSplit false) (dK (.str ⟨#[49, 32, 50, 32, 51, 32, 52, 32, 57, 32, 49, 48, 32, 48, 32, 48, 49, 32, 48, 57, 32, 45, 49, 32, 43, 50, 32, 107, 101, 101, 112, 32, 98, 97, 99, 107, 32, 111, 117, 116, 32, 107, 101, 101, 112, 115, 32, 66, 97, 99, 107, 32, 104, 111, 117, 115, 101, 32, 119, 97, 118, 101, 32, 100, 97, 121, 115, 32, 115, 105, 108, 101, 110, 116, 32, 100, 101, 99, 108, 105, 110, 101, 100]⟩)) (dK (.str ⟨#[32]⟩))) (dLst false [(dK (.str ⟨#[]⟩))])) (gNm 4)) (sSeq
    (sRet (dSM oJoin (dK (.str ⟨#[32]⟩)) (d2 oAdd (d2 oAdd (dCut false (dV 3) none (some (dV 8))) (dLst false [(d2 oIx (dV 4) (dCall 5 [(dV 0), (dN bLen [(dV 4)])]))])) (dCut false (dV 3) (some (d2 oAdd (dV 8) (dK (.int 1)))) none)))) sNil)))))))))))
/-- _law_reads -/
def b12 : SD := (sSeq
    (sAsg (dCall 10 [(dV 0)]) (gNm 1)) (sSeq
    (sIf (tBl (d2 oNe (dCaught (fun k => List.contains [1, 2, 3, 4, 5, 6, 7, 8, 9, 10, 11, 12] k) TH2 8 3 2 (dNF (bOwn gm.ownB gm.b 3 bStr) [(dMethK gm.b gm.cm gm.sgf 1 (dK (.cls 0)) [(dV 0)] [] [])]) (dLst false [(dK (.str ⟨#[116, 111, 108, 100]⟩)), (dN bRepr [(dV 2)])])) (dV 1))) (sSeq
    (sRet (dK (.bl false))) sNil) sNil) (sSeq
    (sIf (tBl (d2 oNe (d2 oIx (dV 1) (dK (.int 0))) (dK (.str ⟨#[116, 111, 108, 100]⟩)))) (sSeq
    (sRet (dK (.bl true))) sNil) sNil) (sSeq
    (sPar 2 3 (dSM (oSplit false) (dV 0) (dK (.str ⟨#[32]⟩))) (dMethK gm.b gm.cm gm.sgf 1 (dK (.cls 0)) [] [(dV 0)] [⟨#[116, 101, 120, 116]⟩])) (sSeq
    (sRet (dAnd (d2F (cmpO gm.ownB gm.b 2 false) (dV 3) (dNew false 0 15 [(dN bInt [(d2 oIx (dV 2) (dK (.int 2)))]), (dN bInt [(d2 oIx (dV 2) (dK (.int 4)))]), (d2 oIx (dV 2) (dK (.int 6))), (d2 oIx (dV 2) (dK (.int 8)))])) (dN (bIsi gm.isa gm.xi) [(dAttr gm.b 0 (dV 3)), (dK (.ty 0))]))) sNil)))))
/-- _law_right -/
def b13 : SD := (sSeq
    (sAsg (dCall 7 [(dCall 6 [(dV 0), (dK (.int 9))])]) (gNm 1)) (sSeq
    (sIf (tNotT (tVal (dCall 12 [(dV 1)]))) (sSeq
    (sRet (dK (.bl false))) sNil) sNil) (sSeq
    (sFor (dRng1 (dK (.int 4))) (gNm 2) (sSeq
    (sAsg (dCall 11 [(dV 0), (dV 1)]) (gNm 1)) (sSeq
    (sIf (tNotT (tVal (dCall 12 [(dV 1)]))) (sSeq
    (sRet (dK (.bl false))) sNil) sNil) sNil))) (sSeq
    (sRet (dK (.bl true))) sNil))))
/-- law -/
def b14 : SD := (sSeq
    (sFor (dSrc (dLst false [(dK .non), (dK (.int 0)), (dK (.bl true)), (dTup []), (dTup [(dK (.str ⟨#[104, 111, 117, 115, 101]⟩))]), (dLst false [(dK (.str ⟨#[104, 111, 117, 115, 101, 32, 119, 97, 118, 101, 32, 49, 32, 100, 97, 121, 115, 32, 49, 32, 115, 105, 108, 101, 110, 116, 32, 107, 101, 101, 112, 32, 100, 101, 99, 108, 105, 110, 101, 100, 32, 107, 101, 101, 112]⟩))]), (dDictV [] []), (dNewK false 0 15 [(dK (.int 1)), (dK (.int 1))] [.a 0, .a 1, .d (.str ⟨#[107, 101, 101, 112]⟩), .d (.str ⟨#[107, 101, 101, 112]⟩)])])) (gNm 1) (sSeq
    (sIf (tBl (d2 oNe (dCaught (fun k => List.contains [1, 2, 3, 4, 5, 6, 7, 8, 9, 10, 11, 12] k) TH2 8 3 2 (dNF (bOwn gm.ownB gm.b 3 bStr) [(dMethK gm.b gm.cm gm.sgf 1 (dK (.cls 0)) [(dV 1)] [] [])]) (dLst false [(dK (.str ⟨#[116, 111, 108, 100]⟩)), (dN bRepr [(dV 2)])])) (dLst false [(dK (.str ⟨#[116, 101, 120, 116]⟩)), (dNF (bOwn gm.ownB gm.b 4 bRepr) [(dV 1)])]))) (sSeq
    (sRet (dK (.bl false))) sNil) sNil) sNil)) (sSeq
    (sFor (dSrc (dLst false [(dK (.str ⟨#[]⟩)), (dK (.str ⟨#[32]⟩)), (dK (.str ⟨#[104, 111, 117, 115, 101]⟩)), (dK (.str ⟨#[104, 111, 117, 115, 101, 32, 119, 97, 118, 101, 32, 49, 32, 100, 97, 121, 115, 32, 49]⟩)), (dK (.str ⟨#[104, 111, 117, 115, 101, 32, 119, 97, 118, 101, 32, 49, 50, 32, 100, 97, 121, 115, 32, 51, 32, 115, 105, 108, 101, 110, 116, 32, 107, 101, 101, 112, 32, 100, 101, 99, 108, 105, 110, 101, 100, 32, 107, 101, 101, 112]⟩))])) (gNm 2) (sSeq
    (sIf (tNotT (tVal (dCall 12 [(dV 2)]))) (sSeq
    (sRet (dK (.bl false))) sNil) sNil) sNil)) (sSeq
    (sFor (dRng1 (dN bMax [(dK (.int 2)), (dN bMin [(dN bLen [(dV 0)]), (dK (.int 8))])])) (gNm 3) (sSeq
    (sAsg (dCall 4 [(dCall 3 [(dV 0), (dV 3)])]) (gNm 4)) (sSeq
    (sIf (tNotT (tVal (dN bAll [(dComp false (dRng1 (dK (.int 4))) [5] (.nm 5) tYesT (dCall 13 [(dV 4)]))]))) (sSeq
    (sRet (dK (.bl false))) sNil) sNil) sNil))) (sSeq
    (sRet (dK (.bl true))) sNil))))
/-- House.__init__ -/
def b15 : SD := (sSeq
    (sIf (tNotT (tVal (dCall 1 [(dV 1), (dK (.int 1)), (dK (.int 3))]))) (sSeq
    (sRaise (dXNew 2 [4] [(dV 1)] [.a 0])) sNil) sNil) (sSeq
    (sIf (tNotT (tVal (dCall 1 [(dV 2), (dK (.int 1)), (dK (.int 9))]))) (sSeq
    (sRaise (dXNew 3 [4] [(dV 2)] [.a 0])) sNil) sNil) (sSeq
    (sIf (tNotT (tVal (dCall 2 [(dV 3)]))) (sSeq
    (sRaise (dXNew 4 [4] [(dV 3)] [.a 0])) sNil) sNil) (sSeq
    (sIf (tNotT (tVal (dCall 2 [(dV 4)]))) (sSeq
    (sRaise (dXNew 4 [4] [(dV 4)] [.a 0])) sNil) sNil) (sSeq
    (sSetAt gm.b (dV 0) 0 (dV 1)) (sSeq
    (sSetAt gm.b (dV 0) 1 (dV 2)) (sSeq
    (sSetAt gm.b (dV 0) 2 (dV 3)) (sSeq
    (sSetAt gm.b (dV 0) 3 (dV 4)) sNil))))))))
/-- House.read -/
def b16 : SD := (sSeq
    (sAsg (tIfE (tVal (dN (bIsi gm.isa gm.xi) [(dV 1), (dK (.ty 2))])) (dSM (oSplit false) (dV 1) (dK (.str ⟨#[32]⟩))) (dLst false [])) (gNm 2)) (sSeq
    (sIf (tBl (d2 oNe (dN bLen [(dV 2)]) (dK (.int 9)))) (sSeq
    (sRaise (dXNew 5 [4] [(dV 1)] [.a 0])) sNil) sNil) (sSeq
    (sTryX TN2 (gm.hit 1) (sAsg (dNewV false gm.ini gm.sgf (dV 0) [(dSM oFind (dK (.str ⟨#[48, 49, 50, 51, 52, 53, 54, 55, 56, 57]⟩)) (d2 oIx (dV 2) (dK (.int 2)))), (dSM oFind (dK (.str ⟨#[48, 49, 50, 51, 52, 53, 54, 55, 56, 57]⟩)) (d2 oIx (dV 2) (dK (.int 4)))), (d2 oIx (dV 2) (dK (.int 6))), (d2 oIx (dV 2) (dK (.int 8)))] [] []) (gNm 3)) (dXNew 5 [4] [dV 1] [.a 0])) (sSeq
    (sIf (tBl (d2F (cmpO gm.ownB gm.b 2 true) (dNF (bOwn gm.ownB gm.b 3 bStr) [(dV 3)]) (dV 1))) (sSeq
    (sRaise (dXNew 5 [4] [(dV 1)] [.a 0])) sNil) sNil) (sSeq
    (sRet (dV 3)) sNil)))))
/-- House.__eq__ -/
def b17 : SD := (sSeq
    (sRet (dAnd (dN (bIsi gm.isa gm.xi) [(dV 1), (dK (.cls 0))]) (d2F (cmpO gm.ownB gm.b 2 false) (dNF (bOwn gm.ownB gm.b 3 bStr) [(dV 0)]) (dNF (bOwn gm.ownB gm.b 3 bStr) [(dV 1)])))) sNil)
/-- House.__str__ -/
def b18 : SD := (sSeq
    (sRet (dJs [(dK (.str ⟨#[104, 111, 117, 115, 101, 32, 119, 97, 118, 101, 32]⟩)), (d1 oFmt (dAttr gm.b 0 (dV 0))), (dK (.str ⟨#[32, 100, 97, 121, 115, 32]⟩)), (d1 oFmt (dAttr gm.b 1 (dV 0))), (dK (.str ⟨#[32, 115, 105, 108, 101, 110, 116, 32]⟩)), (d1 oFmt (dAttr gm.b 2 (dV 0))), (dK (.str ⟨#[32, 100, 101, 99, 108, 105, 110, 101, 100, 32]⟩)), (d1 oFmt (dAttr gm.b 3 (dV 0)))] ⟨#[]⟩)) sNil)
/-- House.__repr__ -/
def b19 : SD := (sSeq
    (sRet (dJs [(dK (.str ⟨#[72, 111, 117, 115, 101, 32, 111, 102, 32]⟩)), (d1 oFmt (dAttr gm.b 1 (dV 0))), (dK (.str ⟨#[32, 100, 97, 121, 115]⟩))] ⟨#[]⟩)) sNil)

def T2 : List FnI := [⟨s0.ps, s0.N, b0⟩, ⟨s1.ps, s1.N, b1⟩, ⟨s2.ps, s2.N, b2⟩, ⟨s3.ps, s3.N, b3⟩, ⟨s4.ps, s4.N, b4⟩, ⟨s5.ps, s5.N, b5⟩, ⟨s6.ps, s6.N, b6⟩, ⟨s7.ps, s7.N, b7⟩, ⟨s8.ps, s8.N, b8⟩, ⟨s9.ps, s9.N, b9⟩, ⟨s10.ps, s10.N, b10⟩, ⟨s11.ps, s11.N, b11⟩, ⟨s12.ps, s12.N, b12⟩, ⟨s13.ps, s13.N, b13⟩, ⟨s14.ps, s14.N, b14⟩, ⟨s15.ps, s15.N, b15⟩, ⟨s16.ps, s16.N, b16⟩, ⟨s17.ps, s17.N, b17⟩, ⟨s18.ps, s18.N, b18⟩, ⟨s19.ps, s19.N, b19⟩]
theorem T_eq : T = T2 := by kernel_rfl
end Lw
set_option maxRecDepth 100000
set_option maxHeartbeats 0
namespace Lw
open PySem OL
/-! ### draws -/
def Prs (n : Nat) (st : Sto) : Prop := ∃ a b c : Int, 0 ≤ b ∧ st[n]? = some (.lst [.int a, .int b, .int c])
theorem small_any {i j : Int} (h : small j = true) : (small i || small j) = true := by rw [h, Bool.or_true]
theorem small_fst {i j : Int} (h : small i = true) : (small i || small j) = true := by rw [h, Bool.true_or]
theorem small_rng {i : Int} (h0 : 0 ≤ i) (h1 : i < 1000000) : small i = true := by
  unfold small; simp only [decide_eq_true_eq, Bool.and_eq_true]; omega
theorem pick5 {k n : Nat} {st : Sto} {m : Int} (C : Prs n st) (h0 : 0 < m) (h1 : m < 1073741824) :
    ∃ d st', callK T2 (k + 1) 5 [.obj n, .int m] st = .ok (.int d) st' ∧ 0 ≤ d ∧ d < m ∧ Prs n st' ∧ st'.length = st.length ∧ ∀ i, i ≠ n → st'[i]? = st[i]? := by
  obtain ⟨a, b, c, hb, hc⟩ := C
  have hs : startE s5.N.length [.obj n, .int m] = [some (.obj n), some (.int m), none, none, none, none] := rfl
  have hc1 : (st.set n (.lst [.int a, .int b, .int (c + 1)]))[n]? = some (.lst [.int a, .int b, .int (c + 1)]) := set_at hc
  generalize hg : ((a + 6997 * (c + 1)) * (a % 44497 + 21001) + 70001 * (c + 1) + 5) % 2147483629 = g
  have hc2 : ((st.set n (.lst [.int a, .int b, .int (c + 1)])).set n (.lst [.int g, .int b, .int (c + 1)]))[n]? = some (.lst [.int g, .int b, .int (c + 1)]) := set_at hc1
  have sm : small (a % 44497 + 21001) = true := small_rng (by omega) (by omega)
  rw [callK_go (fi := ⟨s5.ps, s5.N, b5⟩) rfl rfl rfl]
  by_cases hp : 0 < b
  · refine ⟨b % m, ((st.set n (.lst [.int a, .int b, .int (c + 1)])).set n (.lst [.int g, .int b, .int (c + 1)])).set n (.lst [.int g, .int (b / m), .int (c + 1)]), ?_, Int.emod_nonneg _ (by omega), Int.emod_lt_of_pos _ h0, ⟨g, b / m, c + 1, Int.ediv_nonneg hb (by omega), set_at hc2⟩, by simp, fun i hi => by rw [List.getElem?_set_ne (Ne.symm hi), List.getElem?_set_ne (Ne.symm hi), List.getElem?_set_ne (Ne.symm hi)]⟩
    simp only [hs, b5, bnd_ok, bnd_exc, bnd_bad, at_ok, at_exc, at_bad, nxt_nx, nxt_rt, nxt_ex, nxt_bk, nxt_ct, nxt_bad, trn_nx, trn_ct, trn_bk, trn_rt, trn_ex, endF_rt, endF_nx, endF_ex, optR_some, getV_some, q_V, q_K, q_1, q_2, q_nil, q_cons, q_N, q_tup, q_lst, q_newT, q_newF, q_ifE, q_and, q_or, q_not, blR_bl, q_bl, q_val, q_dAnd, q_dOr, q_dNot, q_chain, q_call, q_callK, q_new, q_newK, q_cut, intR_int, q_partN, q_partS, q_src, q_lm, q_sNil, q_seq, q_ex, q_ret, q_retN, q_if, q_asg, q_par, q_par3, q_sub, q_gNm, q_for, forR_seq, forR_cell, forSeq_nil, q_comp, compR_seq, compR_cell, compSeq_nil, r_addI, r_addS, r_addT, r_addL, r_subI, r_mulI, r_divI, r_modI, r_eqI, r_neI, r_eqS, r_neS, r_ltI, r_leI, r_gtI, r_geI, r_int, r_intB, r_abs, r_max, r_min, r_divmod, r_lenL, r_lenT, r_lenF, q_rng1, q_setAt, r_cutL, r_cutF, r_cutT, r_isN, r_isI, noX_ok, q_gTp2, q_gTp3, q_gTq2, q_gTq3, q_gSb, r_ixT, r_ixL, r_ixF, srcT, srcL, srcF, tr_bl, tr_int, wipeE, List.set_cons_zero, List.set_cons_succ, List.getElem?_cons_zero, List.getElem?_cons_succ, List.length_cons, List.length_nil, Nat.reduceAdd, Nat.reduceLeDiff, ↓reduceIte, Bool.false_eq_true, Bool.not_true, Bool.not_false, decide_true, decide_false, r_ixO hc (i := 2) rfl, r_put hc (k := 2) (j := 2) rfl, r_ixO hc1 (i := 0) rfl, r_ixO hc1 (i := 2) rfl, small_fst (show small 6997 = true by decide), small_any sm, small_fst (show small 70001 = true by decide),
      if_pos (show (0 : Int) < 44497 by decide), if_pos (show (0 : Int) < 2147483629 by decide), hg, r_put hc1 (k := 0) (j := 0) rfl, r_ixO hc2 (i := 1) rfl, decide_eq_true hp, if_pos (And.intro h0 h1), r_set hc2 (k := 1) (j := 1) rfl]
  · refine ⟨g / 128 % m, (st.set n (.lst [.int a, .int b, .int (c + 1)])).set n (.lst [.int g, .int b, .int (c + 1)]), ?_, Int.emod_nonneg _ (by omega), Int.emod_lt_of_pos _ h0, ⟨g, b, c + 1, hb, hc2⟩, by simp, fun i hi => by rw [List.getElem?_set_ne (Ne.symm hi), List.getElem?_set_ne (Ne.symm hi)]⟩
    simp only [hs, b5, bnd_ok, bnd_exc, bnd_bad, at_ok, at_exc, at_bad, nxt_nx, nxt_rt, nxt_ex, nxt_bk, nxt_ct, nxt_bad, trn_nx, trn_ct, trn_bk, trn_rt, trn_ex, endF_rt, endF_nx, endF_ex, optR_some, getV_some, q_V, q_K, q_1, q_2, q_nil, q_cons, q_N, q_tup, q_lst, q_newT, q_newF, q_ifE, q_and, q_or, q_not, blR_bl, q_bl, q_val, q_dAnd, q_dOr, q_dNot, q_chain, q_call, q_callK, q_new, q_newK, q_cut, intR_int, q_partN, q_partS, q_src, q_lm, q_sNil, q_seq, q_ex, q_ret, q_retN, q_if, q_asg, q_par, q_par3, q_sub, q_gNm, q_for, forR_seq, forR_cell, forSeq_nil, q_comp, compR_seq, compR_cell, compSeq_nil, r_addI, r_addS, r_addT, r_addL, r_subI, r_mulI, r_divI, r_modI, r_eqI, r_neI, r_eqS, r_neS, r_ltI, r_leI, r_gtI, r_geI, r_int, r_intB, r_abs, r_max, r_min, r_divmod, r_lenL, r_lenT, r_lenF, q_rng1, q_setAt, r_cutL, r_cutF, r_cutT, r_isN, r_isI, noX_ok, q_gTp2, q_gTp3, q_gTq2, q_gTq3, q_gSb, r_ixT, r_ixL, r_ixF, srcT, srcL, srcF, tr_bl, tr_int, wipeE, List.set_cons_zero, List.set_cons_succ, List.getElem?_cons_zero, List.getElem?_cons_succ, List.length_cons, List.length_nil, Nat.reduceAdd, Nat.reduceLeDiff, ↓reduceIte, Bool.false_eq_true, Bool.not_true, Bool.not_false, decide_true, decide_false, r_ixO hc (i := 2) rfl, r_put hc (k := 2) (j := 2) rfl, r_ixO hc1 (i := 0) rfl, r_ixO hc1 (i := 2) rfl, small_fst (show small 6997 = true by decide), small_any sm, small_fst (show small 70001 = true by decide),
      if_pos (show (0 : Int) < 44497 by decide), if_pos (show (0 : Int) < 2147483629 by decide), hg, r_put hc1 (k := 0) (j := 0) rfl, r_ixO hc2 (i := 1) rfl, decide_eq_false hp, r_ixO hc2 (i := 0) rfl, if_pos (show (0 : Int) < 128 ∧ (128 : Int) < 1073741824 by decide), if_pos h0]
/-! ### the numbers of a script -/
theorem atI_mem {xs : List PV} {d : Int} (h0 : 0 ≤ d) (h1 : d < xs.length) : ∃ x, L2.atI xs d = some x ∧ x ∈ xs := by
  obtain ⟨i, rfl⟩ := Int.eq_ofNat_of_zero_le h0
  have hi : i < xs.length := by omega
  refine ⟨xs[i], ?_, List.getElem_mem hi⟩
  have hn : L2.ixN xs.length (i : Int) = some i := by
    simp [L2.ixN]; omega
  simp [L2.atI, hn, hi]
theorem cut_map {ns : List Int} {lo hi : Option Int} : cutL (ns.map PV.int) lo hi = (cutL ns lo hi).map .int := by
  simp only [cutL, List.length_map, List.map_take, List.map_drop]
theorem cut_len {α : Type} {xs : List α} {lo hi : Option Int} : (cutL xs lo hi).length ≤ xs.length := by
  simp only [cutL, List.length_take, List.length_drop]; omega
theorem pow18 {st : Sto} : oPow (.int 10) (.int 18) st = .ok (.int 1000000000000000000) st := by kernel_rfl
theorem loop3 {b : SD} {F : CallT} {st : Sto} {x0 x1 : Option PV} {f : Int → Int → Int} (hb : ∀ m z : Int, b F [x0, x1, some (.int m), some (.int z)] st = .ok (.nx [x0, x1, some (.int (f m z)), some (.int z)]) st) :
    ∀ (zs : List Int) (m : Int) (a3 : Option PV), ∃ a3', forSeq (gNm 3) b (zs.map .int) F [x0, x1, some (.int m), a3] st = .ok (.nx [x0, x1, some (.int (zs.foldl f m)), a3']) st
  | [], m, a3 => ⟨a3, rfl⟩
  | z :: zs, m, a3 => by
    obtain ⟨a2, h2⟩ := loop3 hb zs (f m z) (some (.int z))
    refine ⟨a2, ?_⟩
    simp only [List.map_cons, forSeq_cons, q_gNm, at_ok, List.set_cons_zero, List.set_cons_succ, hb, trn_nx, h2, List.foldl_cons]
def mixF (m z : Int) : Int := (m * 40487 + z) % 2147483587
theorem ints_pure : ∀ l : List Int, pureVs (l.map .int) = true
  | [] => rfl
  | a :: r => by simp only [List.map_cons, pureVs, pureV, ints_pure r, Bool.and_self]
theorem num3 {k : Nat} {ns : List Int} {t : Int} {st : Sto} (hn : ns.length ≤ 63) (ht : 0 ≤ t ∧ t < 1000) : ∃ v : Int, callK T2 (k + 1) 3 [.fl (ns.map .int), .int t] st = .ok (.int v) st := by
  have hs : startE s3.N.length [.fl (ns.map .int), .int t] = [some (.fl (ns.map .int)), some (.int t), none, none] := rfl
  have hp : pureVs [.fl (ns.map PV.int), .int t] = true := by simp only [pureVs, pureV, ints_pure, Bool.and_self]
  by_cases h : t < (ns.map PV.int).length
  · obtain ⟨x, hx, hm⟩ := atI_mem (xs := ns.map PV.int) ht.1 h
    obtain ⟨c, _, rfl⟩ := List.mem_map.mp hm
    refine ⟨c, callK_iso (fi := ⟨s3.ps, s3.N, b3⟩) (s := []) rfl rfl hp ?_ rfl⟩
    simp only [hs, b3, bnd_ok, bnd_exc, bnd_bad, at_ok, at_exc, at_bad, nxt_nx, nxt_rt, nxt_ex, nxt_bk, nxt_ct, nxt_bad, trn_nx, trn_ct, trn_bk, trn_rt, trn_ex, endF_rt, endF_nx, endF_ex, optR_some, getV_some, q_V, q_K, q_1, q_2, q_nil, q_cons, q_N, q_tup, q_lst, q_newT, q_newF, q_ifE, q_and, q_or, q_not, blR_bl, q_bl, q_val, q_dAnd, q_dOr, q_dNot, q_chain, q_call, q_callK, q_new, q_newK, q_cut, intR_int, q_partN, q_partS, q_src, q_lm, q_sNil, q_seq, q_ex, q_ret, q_retN, q_if, q_asg, q_par, q_par3, q_sub, q_gNm, q_for, forR_seq, forR_cell, forSeq_nil, q_comp, compR_seq, compR_cell, compSeq_nil, r_addI, r_addS, r_addT, r_addL, r_subI, r_mulI, r_divI, r_modI, r_eqI, r_neI, r_eqS, r_neS, r_ltI, r_leI, r_gtI, r_geI, r_int, r_intB, r_abs, r_max, r_min, r_divmod, r_lenL, r_lenT, r_lenF, q_rng1, q_setAt, r_cutL, r_cutF, r_cutT, r_isN, r_isI, noX_ok, q_gTp2, q_gTp3, q_gTq2, q_gTq3, q_gSb, r_ixT, r_ixL, r_ixF, srcT, srcL, srcF, tr_bl, tr_int, wipeE, List.set_cons_zero, List.set_cons_succ, List.getElem?_cons_zero, List.getElem?_cons_succ, List.length_cons, List.length_nil, Nat.reduceAdd, Nat.reduceLeDiff, ↓reduceIte, Bool.false_eq_true, Bool.not_true, Bool.not_false, decide_true, decide_false, decide_eq_true h, hx]
  · have hl : (cutL (ns.map PV.int) none (some 3)).length ≤ 16777216 := by
      have := cut_len (xs := ns.map PV.int) (lo := none) (hi := some 3)
      simp only [List.length_map] at this
      omega
    obtain ⟨a3, h3⟩ := loop3 (F := callK T2 k) (st := []) (x0 := some (.fl (ns.map .int))) (x1 := some (.int t)) (f := mixF) (b := (sSeq
      (sAsg (d2 oMod (dN bInt [(d2 oAdd (d2 oMul (dV 2) (dK (.int 40487))) (dV 3))]) (dK (.int 2147483587))) (gNm 2)) sNil))
      (fun m z => by simp only [bnd_ok, bnd_exc, bnd_bad, at_ok, at_exc, at_bad, nxt_nx, nxt_rt, nxt_ex, nxt_bk, nxt_ct, nxt_bad, trn_nx, trn_ct, trn_bk, trn_rt, trn_ex, endF_rt, endF_nx, endF_ex, optR_some, getV_some, q_V, q_K, q_1, q_2, q_nil, q_cons, q_N, q_tup, q_lst, q_newT, q_newF, q_ifE, q_and, q_or, q_not, blR_bl, q_bl, q_val, q_dAnd, q_dOr, q_dNot, q_chain, q_call, q_callK, q_new, q_newK, q_cut, intR_int, q_partN, q_partS, q_src, q_lm, q_sNil, q_seq, q_ex, q_ret, q_retN, q_if, q_asg, q_par, q_par3, q_sub, q_gNm, q_for, forR_seq, forR_cell, forSeq_nil, q_comp, compR_seq, compR_cell, compSeq_nil, r_addI, r_addS, r_addT, r_addL, r_subI, r_mulI, r_divI, r_modI, r_eqI, r_neI, r_eqS, r_neS, r_ltI, r_leI, r_gtI, r_geI, r_int, r_intB, r_abs, r_max, r_min, r_divmod, r_lenL, r_lenT, r_lenF, q_rng1, q_setAt, r_cutL, r_cutF, r_cutT, r_isN, r_isI, noX_ok, q_gTp2, q_gTp3, q_gTq2, q_gTq3, q_gSb, r_ixT, r_ixL, r_ixF, srcT, srcL, srcF, tr_bl, tr_int, wipeE, List.set_cons_zero, List.set_cons_succ, List.getElem?_cons_zero, List.getElem?_cons_succ, List.length_cons, List.length_nil, Nat.reduceAdd, Nat.reduceLeDiff, ↓reduceIte, Bool.false_eq_true, Bool.not_true, Bool.not_false, decide_true, decide_false, small_any (show small 40487 = true by decide), if_pos (show (0 : Int) < 2147483587 by decide), mixF]) (cutL ns none (some 3)) (61343 * (t * t + 5 * t + 17) % 2147483587) none
    refine ⟨(cutL ns none (some 3)).foldl mixF (61343 * (t * t + 5 * t + 17) % 2147483587), callK_iso (fi := ⟨s3.ps, s3.N, b3⟩) (s := []) rfl rfl hp ?_ rfl⟩
    simp only [hs, b3, bnd_ok, bnd_exc, bnd_bad, at_ok, at_exc, at_bad, nxt_nx, nxt_rt, nxt_ex, nxt_bk, nxt_ct, nxt_bad, trn_nx, trn_ct, trn_bk, trn_rt, trn_ex, endF_rt, endF_nx, endF_ex, optR_some, getV_some, q_V, q_K, q_1, q_2, q_nil, q_cons, q_N, q_tup, q_lst, q_newT, q_newF, q_ifE, q_and, q_or, q_not, blR_bl, q_bl, q_val, q_dAnd, q_dOr, q_dNot, q_chain, q_call, q_callK, q_new, q_newK, q_cut, intR_int, q_partN, q_partS, q_src, q_lm, q_sNil, q_seq, q_ex, q_ret, q_retN, q_if, q_asg, q_par, q_par3, q_sub, q_gNm, q_for, forR_seq, forR_cell, forSeq_nil, q_comp, compR_seq, compR_cell, compSeq_nil, r_addI, r_addS, r_addT, r_addL, r_subI, r_mulI, r_divI, r_modI, r_eqI, r_neI, r_eqS, r_neS, r_ltI, r_leI, r_gtI, r_geI, r_int, r_intB, r_abs, r_max, r_min, r_divmod, r_lenL, r_lenT, r_lenF, q_rng1, q_setAt, r_cutL, r_cutF, r_cutT, r_isN, r_isI, noX_ok, q_gTp2, q_gTp3, q_gTq2, q_gTq3, q_gSb, r_ixT, r_ixL, r_ixF, srcT, srcL, srcF, tr_bl, tr_int, wipeE, List.set_cons_zero, List.set_cons_succ, List.getElem?_cons_zero, List.getElem?_cons_succ, List.length_cons, List.length_nil, Nat.reduceAdd, Nat.reduceLeDiff, ↓reduceIte, Bool.false_eq_true, Bool.not_true, Bool.not_false, decide_true, decide_false, decide_eq_false h, small_fst (small_rng ht.1 (by omega)), small_fst (show small 5 = true by decide), small_fst (show small 61343 = true by decide), if_pos (show (0 : Int) < 2147483587 by decide), cut_map, h3]
theorem purse4 {k : Nat} {v : Int} {st : Sto} : ∃ a b : Int, 0 ≤ b ∧ callK T2 (k + 1) 4 [.int v] st = .ok (.obj st.length) (st ++ [.lst [.int a, .int b, .int 0]]) := by
  have hs : startE s4.N.length [.int v] = [some (.int v), none] := rfl
  refine ⟨v % 2147483629, if v < 0 ∨ 1000000000000000000 ≤ v then (if v < 0 then -v else v) else 0, ?_, ?_⟩
  · split
    · split <;> omega
    · exact Int.le_refl 0
  · have hr : ∀ s, endF (b4 (callK T2 k) [some (.int v), none] s) = .ok (.obj s.length) (s ++ [.lst [.int (v % 2147483629), .int (if v < 0 ∨ 1000000000000000000 ≤ v then (if v < 0 then -v else v) else 0), .int 0]]) := fun s => by
      simp only [b4, bnd_ok, bnd_exc, bnd_bad, at_ok, at_exc, at_bad, nxt_nx, nxt_rt, nxt_ex, nxt_bk, nxt_ct, nxt_bad, trn_nx, trn_ct, trn_bk, trn_rt, trn_ex, endF_rt, endF_nx, endF_ex, optR_some, getV_some, q_V, q_K, q_1, q_2, q_nil, q_cons, q_N, q_tup, q_lst, q_newT, q_newF, q_ifE, q_and, q_or, q_not, blR_bl, q_bl, q_val, q_dAnd, q_dOr, q_dNot, q_chain, q_call, q_callK, q_new, q_newK, q_cut, intR_int, q_partN, q_partS, q_src, q_lm, q_sNil, q_seq, q_ex, q_ret, q_retN, q_if, q_asg, q_par, q_par3, q_sub, q_gNm, q_for, forR_seq, forR_cell, forSeq_nil, q_comp, compR_seq, compR_cell, compSeq_nil, r_addI, r_addS, r_addT, r_addL, r_subI, r_mulI, r_divI, r_modI, r_eqI, r_neI, r_eqS, r_neS, r_ltI, r_leI, r_gtI, r_geI, r_int, r_intB, r_abs, r_max, r_min, r_divmod, r_lenL, r_lenT, r_lenF, q_rng1, q_setAt, r_cutL, r_cutF, r_cutT, r_isN, r_isI, noX_ok, q_gTp2, q_gTp3, q_gTq2, q_gTq3, q_gSb, r_ixT, r_ixL, r_ixF, srcT, srcL, srcF, tr_bl, tr_int, wipeE, List.set_cons_zero, List.set_cons_succ, List.getElem?_cons_zero, List.getElem?_cons_succ, List.length_cons, List.length_nil, Nat.reduceAdd, Nat.reduceLeDiff, ↓reduceIte, Bool.false_eq_true, Bool.not_true, Bool.not_false, decide_true, decide_false, pow18, if_pos (show (0 : Int) < 2147483629 by decide)]
      by_cases h1 : v < 0
      · simp only [decide_eq_true h1, bnd_ok, bnd_exc, bnd_bad, at_ok, at_exc, at_bad, nxt_nx, nxt_rt, nxt_ex, nxt_bk, nxt_ct, nxt_bad, trn_nx, trn_ct, trn_bk, trn_rt, trn_ex, endF_rt, endF_nx, endF_ex, optR_some, getV_some, q_V, q_K, q_1, q_2, q_nil, q_cons, q_N, q_tup, q_lst, q_newT, q_newF, q_ifE, q_and, q_or, q_not, blR_bl, q_bl, q_val, q_dAnd, q_dOr, q_dNot, q_chain, q_call, q_callK, q_new, q_newK, q_cut, intR_int, q_partN, q_partS, q_src, q_lm, q_sNil, q_seq, q_ex, q_ret, q_retN, q_if, q_asg, q_par, q_par3, q_sub, q_gNm, q_for, forR_seq, forR_cell, forSeq_nil, q_comp, compR_seq, compR_cell, compSeq_nil, r_addI, r_addS, r_addT, r_addL, r_subI, r_mulI, r_divI, r_modI, r_eqI, r_neI, r_eqS, r_neS, r_ltI, r_leI, r_gtI, r_geI, r_int, r_intB, r_abs, r_max, r_min, r_divmod, r_lenL, r_lenT, r_lenF, q_rng1, q_setAt, r_cutL, r_cutF, r_cutT, r_isN, r_isI, noX_ok, q_gTp2, q_gTp3, q_gTq2, q_gTq3, q_gSb, r_ixT, r_ixL, r_ixF, srcT, srcL, srcF, tr_bl, tr_int, wipeE, List.set_cons_zero, List.set_cons_succ, List.getElem?_cons_zero, List.getElem?_cons_succ, List.length_cons, List.length_nil, Nat.reduceAdd, Nat.reduceLeDiff, ↓reduceIte, Bool.false_eq_true, Bool.not_true, Bool.not_false, decide_true, decide_false, h1, true_or, if_pos (show (0 : Int) < 2147483629 by decide)]
      · by_cases h2 : 1000000000000000000 ≤ v
        · simp only [decide_eq_false h1, decide_eq_true h2, bnd_ok, bnd_exc, bnd_bad, at_ok, at_exc, at_bad, nxt_nx, nxt_rt, nxt_ex, nxt_bk, nxt_ct, nxt_bad, trn_nx, trn_ct, trn_bk, trn_rt, trn_ex, endF_rt, endF_nx, endF_ex, optR_some, getV_some, q_V, q_K, q_1, q_2, q_nil, q_cons, q_N, q_tup, q_lst, q_newT, q_newF, q_ifE, q_and, q_or, q_not, blR_bl, q_bl, q_val, q_dAnd, q_dOr, q_dNot, q_chain, q_call, q_callK, q_new, q_newK, q_cut, intR_int, q_partN, q_partS, q_src, q_lm, q_sNil, q_seq, q_ex, q_ret, q_retN, q_if, q_asg, q_par, q_par3, q_sub, q_gNm, q_for, forR_seq, forR_cell, forSeq_nil, q_comp, compR_seq, compR_cell, compSeq_nil, r_addI, r_addS, r_addT, r_addL, r_subI, r_mulI, r_divI, r_modI, r_eqI, r_neI, r_eqS, r_neS, r_ltI, r_leI, r_gtI, r_geI, r_int, r_intB, r_abs, r_max, r_min, r_divmod, r_lenL, r_lenT, r_lenF, q_rng1, q_setAt, r_cutL, r_cutF, r_cutT, r_isN, r_isI, noX_ok, q_gTp2, q_gTp3, q_gTq2, q_gTq3, q_gSb, r_ixT, r_ixL, r_ixF, srcT, srcL, srcF, tr_bl, tr_int, wipeE, List.set_cons_zero, List.set_cons_succ, List.getElem?_cons_zero, List.getElem?_cons_succ, List.length_cons, List.length_nil, Nat.reduceAdd, Nat.reduceLeDiff, ↓reduceIte, Bool.false_eq_true, Bool.not_true, Bool.not_false, decide_true, decide_false, h1, h2, or_true, if_pos (show (0 : Int) < 2147483629 by decide)]
        · simp only [decide_eq_false h1, decide_eq_false h2, bnd_ok, bnd_exc, bnd_bad, at_ok, at_exc, at_bad, nxt_nx, nxt_rt, nxt_ex, nxt_bk, nxt_ct, nxt_bad, trn_nx, trn_ct, trn_bk, trn_rt, trn_ex, endF_rt, endF_nx, endF_ex, optR_some, getV_some, q_V, q_K, q_1, q_2, q_nil, q_cons, q_N, q_tup, q_lst, q_newT, q_newF, q_ifE, q_and, q_or, q_not, blR_bl, q_bl, q_val, q_dAnd, q_dOr, q_dNot, q_chain, q_call, q_callK, q_new, q_newK, q_cut, intR_int, q_partN, q_partS, q_src, q_lm, q_sNil, q_seq, q_ex, q_ret, q_retN, q_if, q_asg, q_par, q_par3, q_sub, q_gNm, q_for, forR_seq, forR_cell, forSeq_nil, q_comp, compR_seq, compR_cell, compSeq_nil, r_addI, r_addS, r_addT, r_addL, r_subI, r_mulI, r_divI, r_modI, r_eqI, r_neI, r_eqS, r_neS, r_ltI, r_leI, r_gtI, r_geI, r_int, r_intB, r_abs, r_max, r_min, r_divmod, r_lenL, r_lenT, r_lenF, q_rng1, q_setAt, r_cutL, r_cutF, r_cutT, r_isN, r_isI, noX_ok, q_gTp2, q_gTp3, q_gTq2, q_gTq3, q_gSb, r_ixT, r_ixL, r_ixF, srcT, srcL, srcF, tr_bl, tr_int, wipeE, List.set_cons_zero, List.set_cons_succ, List.getElem?_cons_zero, List.getElem?_cons_succ, List.length_cons, List.length_nil, Nat.reduceAdd, Nat.reduceLeDiff, ↓reduceIte, Bool.false_eq_true, Bool.not_true, Bool.not_false, decide_true, decide_false, h1, h2, or_self, if_pos (show (0 : Int) < 2147483629 by decide)]
    rw [callK_all (fi := ⟨s4.ps, s4.N, b4⟩) rfl rfl]
    simp only [isoF, hs, hr, pureV, Bool.false_eq_true, ↓reduceIte]
    cases pureVs [PV.int v] <;> rfl
end Lw
set_option maxRecDepth 100000
set_option maxHeartbeats 0
namespace Lw
open PySem OL
/-! ### houses and their texts -/
def wds : List Str := [⟨#[107, 101, 101, 112]⟩, ⟨#[98, 97, 99, 107]⟩, ⟨#[111, 117, 116]⟩]
def hsV (w d : Int) (s t : Str) : PV := .iv 0 [0, 1, 2, 3] [.int w, .int d, .str s, .str t]
def ruV (w d : Int) (s t : Str) : List PV := [.int w, .int d, .str s, .str t]
def htx (w d : Int) (s t : Str) : Str := (⟨#[104, 111, 117, 115, 101, 32, 119, 97, 118, 101, 32]⟩ ++ toString w ++ ⟨#[32, 100, 97, 121, 115, 32]⟩ ++ toString d ++ ⟨#[32, 115, 105, 108, 101, 110, 116, 32]⟩ ++ s ++ ⟨#[32, 100, 101, 99, 108, 105, 110, 101, 100, 32]⟩ ++ t : Str)
def rtx (d : Int) : Str := (⟨#[72, 111, 117, 115, 101, 32, 111, 102, 32]⟩ ++ toString d ++ ⟨#[32, 100, 97, 121, 115]⟩ : Str)
/-- the numbers that stand in a house -/
structure Nm (w : Int) : Prop where
  lo : 1 ≤ w
  hi : w ≤ 9
  lg : w.natAbs.log2 < 1920
  ln : (toString w : Str).length ≤ 100
theorem nm_of {w : Int} (h : 1 ≤ w ∧ w ≤ 9) : Nm w := by
  have : w = 1 ∨ w = 2 ∨ w = 3 ∨ w = 4 ∨ w = 5 ∨ w = 6 ∨ w = 7 ∨ w = 8 ∨ w = 9 := by omega
  rcases this with rfl | rfl | rfl | rfl | rfl | rfl | rfl | rfl | rfl <;> exact ⟨by decide, by decide, by decide +kernel, by decide +kernel⟩
theorem wd_len {s : Str} (h : s ∈ wds) : s.length ≤ 100 := by
  simp only [wds, List.mem_cons, List.not_mem_nil, or_false] at h
  rcases h with rfl | rfl | rfl <;> decide
section
variable {k : Nat} {w d : Int} {s t : Str} {st : Sto}
theorem strI {i : Int} (h : i.natAbs.log2 < 1920) : bStr [.int i] st = .ok (.str (toString i)) st := by simp only [bStr, if_pos h]
theorem fmtI {i : Int} (h : i.natAbs.log2 < 1920) : oFmt (.int i) st = .ok (.str (toString i)) st := by simp only [oFmt, if_pos h]
theorem fmtS {x : Str} (h : x.length ≤ 100) : oFmt (.str x) st = .ok (.str x) st := by simp only [oFmt, if_pos (show x.length ≤ 16777216 by omega)]
theorem lit_len : (⟨#[104, 111, 117, 115, 101, 32, 119, 97, 118, 101, 32]⟩ : Str).length = 11 ∧ (⟨#[32, 100, 97, 121, 115, 32]⟩ : Str).length = 6 ∧ (⟨#[32, 115, 105, 108, 101, 110, 116, 32]⟩ : Str).length = 8 ∧ (⟨#[32, 100, 101, 99, 108, 105, 110, 101, 100, 32]⟩ : Str).length = 10 ∧
  (⟨#[72, 111, 117, 115, 101, 32, 111, 102, 32]⟩ : Str).length = 9 ∧ (⟨#[32, 100, 97, 121, 115]⟩ : Str).length = 5 ∧ (⟨#[]⟩ : Str).length = 0 := ⟨rfl, rfl, rfl, rfl, rfl, rfl, rfl⟩
theorem js_cons {a : D PV} {r : List (D PV)} {acc y : Str} {F : CallT} {e : LEnv} {s' : Sto} (h : a F e st = .ok (.str y) s') (hl : (acc ++ y).length ≤ 16777216) : dJs (a :: r) acc F e st = dJs r (acc ++ y) F e s' := by
  simp only [dJs, h, Res.bnd, if_pos hl]
theorem addS {a b : Str} (h : a.length + b.length ≤ 16777216) : oAdd (.str a) (.str b) st = .ok (.str (a ++ b)) st := by simp only [r_addS, if_pos h]
theorem text7 {X : PV} (hX : X = .tup (ruV w d s t) ∨ X = .lv (ruV w d s t)) (hw : Nm w) (hd : Nm d) (hs : s.length ≤ 100) (ht : t.length ≤ 100) : callK T2 (k + 1) 7 [X] st = .ok (.str (htx w d s t)) st := by
  have hp : pureVs [X] = true := by rcases hX with rfl | rfl <;> rfl
  refine callK_iso (fi := ⟨s7.ps, s7.N, b7⟩) (s := []) rfl rfl hp ?_ rfl
  have hS : startE s7.N.length [X] = [some X, none] := rfl
  obtain ⟨l1, l2, l3, l4, _⟩ := lit_len
  have i0 : ∀ z, oIx X (.int 0) z = .ok (.int w) z := fun z => by rcases hX with rfl | rfl <;> rfl
  have i1 : ∀ z, oIx X (.int 1) z = .ok (.int d) z := fun z => by rcases hX with rfl | rfl <;> rfl
  have i2 : ∀ z, oIx X (.int 2) z = .ok (.str s) z := fun z => by rcases hX with rfl | rfl <;> rfl
  have i3 : ∀ z, oIx X (.int 3) z = .ok (.str t) z := fun z => by rcases hX with rfl | rfl <;> rfl
  have hw2 := hw.ln
  have hd2 := hd.ln
  have j0 : ∀ z, bStr [.int w] z = .ok (.str (toString w)) z := fun z => strI hw.lg
  have j1 : ∀ z, bStr [.int d] z = .ok (.str (toString d)) z := fun z => strI hd.lg
  unfold htx
  generalize Str.ofString (toString w) = ws at *
  generalize Str.ofString (toString d) = ds at *
  clear hX hp
  generalize hL1 : (⟨#[104, 111, 117, 115, 101, 32, 119, 97, 118, 101, 32]⟩ : Str) = L1 at *
  generalize hL2 : (⟨#[32, 100, 97, 121, 115, 32]⟩ : Str) = L2 at *
  generalize hL3 : (⟨#[32, 115, 105, 108, 101, 110, 116, 32]⟩ : Str) = L3 at *
  generalize hL4 : (⟨#[32, 100, 101, 99, 108, 105, 110, 101, 100, 32]⟩ : Str) = L4 at *
  have a1 : ∀ z, oAdd (.str L1) (.str ws) z = .ok (.str (L1 ++ ws)) z := fun z => addS (by omega)
  have a2 : ∀ z, oAdd (.str (L1 ++ ws)) (.str L2) z = .ok (.str (L1 ++ ws ++ L2)) z := fun z => addS (by simp only [Str.length_append]; omega)
  have a3 : ∀ z, oAdd (.str (L1 ++ ws ++ L2)) (.str ds) z = .ok (.str (L1 ++ ws ++ L2 ++ ds)) z := fun z => addS (by simp only [Str.length_append]; omega)
  have a4 : ∀ z, oAdd (.str (L1 ++ ws ++ L2 ++ ds)) (.str L3) z = .ok (.str (L1 ++ ws ++ L2 ++ ds ++ L3)) z := fun z => addS (by simp only [Str.length_append]; omega)
  have a5 : ∀ z, oAdd (.str (L1 ++ ws ++ L2 ++ ds ++ L3)) (.str s) z = .ok (.str (L1 ++ ws ++ L2 ++ ds ++ L3 ++ s)) z := fun z => addS (by simp only [Str.length_append]; omega)
  have a6 : ∀ z, oAdd (.str (L1 ++ ws ++ L2 ++ ds ++ L3 ++ s)) (.str L4) z = .ok (.str (L1 ++ ws ++ L2 ++ ds ++ L3 ++ s ++ L4)) z := fun z => addS (by simp only [Str.length_append]; omega)
  have a7 : ∀ z, oAdd (.str (L1 ++ ws ++ L2 ++ ds ++ L3 ++ s ++ L4)) (.str t) z = .ok (.str (L1 ++ ws ++ L2 ++ ds ++ L3 ++ s ++ L4 ++ t)) z := fun z => addS (by simp only [Str.length_append]; omega)
  simp only [hS, b7, hL1, hL2, hL3, hL4, bnd_ok, bnd_exc, bnd_bad, at_ok, at_exc, at_bad, nxt_nx, nxt_rt, nxt_ex, nxt_bk, nxt_ct, nxt_bad, trn_nx, trn_ct, trn_bk, trn_rt, trn_ex, endF_rt, endF_nx, endF_ex, optR_some, getV_some, q_V, q_K, q_1, q_2, q_nil, q_cons, q_N, q_tup, q_lst, q_newT, q_newF, q_ifE, q_and, q_or, q_not, blR_bl, q_bl, q_val, q_dAnd, q_dOr, q_dNot, q_chain, q_call, q_callK, q_new, q_newK, q_cut, intR_int, q_partN, q_partS, q_src, q_lm, q_sNil, q_seq, q_ex, q_ret, q_retN, q_if, q_asg, q_par, q_par3, q_sub, q_gNm, q_for, forR_seq, forR_cell, forSeq_nil, q_comp, compR_seq, compR_cell, compSeq_nil, r_addI, r_addT, r_addL, r_subI, r_mulI, r_divI, r_modI, r_eqI, r_neI, r_eqS, r_neS, r_ltI, r_leI, r_gtI, r_geI, r_int, r_intB, r_abs, r_max, r_min, r_divmod, r_lenL, r_lenT, r_lenF, q_rng1, q_setAt, r_cutL, r_cutF, r_cutT, r_isN, r_isI, noX_ok, q_gTp2, q_gTp3, q_gTq2, q_gTq3, q_gSb, r_ixT, r_ixL, r_ixF, srcT, srcL, srcF, tr_bl, tr_int, wipeE, List.set_cons_zero, List.set_cons_succ, List.getElem?_cons_zero, List.getElem?_cons_succ, List.length_cons, List.length_nil, Nat.reduceAdd, Nat.reduceLeDiff, ↓reduceIte, Bool.false_eq_true, Bool.not_true, Bool.not_false, decide_true, decide_false, i0, i1, i2, i3, j0, j1, a1, a2, a3, a4, a5, a6, a7]
theorem str18 (hw : Nm w) (hd : Nm d) (hs : s.length ≤ 100) (ht : t.length ≤ 100) : callK T2 (k + 1) 18 [hsV w d s t] st = .ok (.str (htx w d s t)) st := by
  refine callK_iso (fi := ⟨s18.ps, s18.N, b18⟩) (s := []) rfl rfl rfl ?_ rfl
  have hS : startE s18.N.length [hsV w d s t] = [some (hsV w d s t)] := rfl
  obtain ⟨l1, l2, l3, l4, _, _, l0⟩ := lit_len
  have hw2 := hw.ln
  have hd2 := hd.ln
  have f0 : d1 oFmt (dAttr gm.b 0 (dV 0)) (callK T2 k) [some (hsV w d s t)] [] = .ok (.str (toString w)) [] := (show _ = oFmt (.int w) [] from rfl).trans (fmtI hw.lg)
  have f1 : d1 oFmt (dAttr gm.b 1 (dV 0)) (callK T2 k) [some (hsV w d s t)] [] = .ok (.str (toString d)) [] := (show _ = oFmt (.int d) [] from rfl).trans (fmtI hd.lg)
  have f2 : d1 oFmt (dAttr gm.b 2 (dV 0)) (callK T2 k) [some (hsV w d s t)] [] = .ok (.str s) [] := (show _ = oFmt (.str s) [] from rfl).trans (fmtS hs)
  have f3 : d1 oFmt (dAttr gm.b 3 (dV 0)) (callK T2 k) [some (hsV w d s t)] [] = .ok (.str t) [] := (show _ = oFmt (.str t) [] from rfl).trans (fmtS ht)
  have e0 : ((⟨#[]⟩ : Str) ++ ⟨#[104, 111, 117, 115, 101, 32, 119, 97, 118, 101, 32]⟩) = ⟨#[104, 111, 117, 115, 101, 32, 119, 97, 118, 101, 32]⟩ := by decide
  unfold htx
  simp only [hS, b18, q_seq, q_ret]
  rw [js_cons (a := dK _) rfl (by rw [e0, l1]; omega), e0, js_cons f0 (by simp only [Str.length_append, l1]; omega), js_cons (a := dK _) rfl (by simp only [Str.length_append, l1, l2]; omega), js_cons f1 (by simp only [Str.length_append, l1, l2]; omega),
    js_cons (a := dK _) rfl (by simp only [Str.length_append, l1, l2, l3]; omega), js_cons f2 (by simp only [Str.length_append, l1, l2, l3]; omega), js_cons (a := dK _) rfl (by simp only [Str.length_append, l1, l2, l3, l4]; omega), js_cons f3 (by simp only [Str.length_append, l1, l2, l3, l4]; omega)]
  rfl
theorem repr19 (hd : Nm d) : callK T2 (k + 1) 19 [hsV w d s t] st = .ok (.str (rtx d)) st := by
  refine callK_iso (fi := ⟨s19.ps, s19.N, b19⟩) (s := []) rfl rfl rfl ?_ rfl
  have hS : startE s19.N.length [hsV w d s t] = [some (hsV w d s t)] := rfl
  obtain ⟨_, _, _, _, l5, l6, l0⟩ := lit_len
  have hd2 := hd.ln
  have f1 : d1 oFmt (dAttr gm.b 1 (dV 0)) (callK T2 k) [some (hsV w d s t)] [] = .ok (.str (toString d)) [] := (show _ = oFmt (.int d) [] from rfl).trans (fmtI hd.lg)
  have e0 : ((⟨#[]⟩ : Str) ++ ⟨#[72, 111, 117, 115, 101, 32, 111, 102, 32]⟩) = ⟨#[72, 111, 117, 115, 101, 32, 111, 102, 32]⟩ := by decide
  unfold rtx
  simp only [hS, b19, q_seq, q_ret]
  rw [js_cons (a := dK _) rfl (by rw [e0, l5]; omega), e0, js_cons f1 (by simp only [Str.length_append, l5]; omega), js_cons (a := dK _) rfl (by simp only [Str.length_append, l5, l6]; omega)]
  rfl
end
end Lw
set_option maxRecDepth 100000
set_option maxHeartbeats 0
namespace Lw
open PySem OL TL
/-! ### the text of a house, cut -/
structure Ru (w d : Int) (s t : Str) : Prop where
  w : 1 ≤ w ∧ w ≤ 3
  d : 1 ≤ d ∧ d ≤ 9
  s : s ∈ wds
  t : t ∈ wds
theorem Ru.nw {w d : Int} {s t : Str} (r : Ru w d s t) : Nm w := nm_of ⟨r.w.1, by have := r.w.2; omega⟩
theorem Ru.nd {w d : Int} {s t : Str} (r : Ru w d s t) : Nm d := nm_of r.d
abbrev sH : Str := ⟨#[104, 111, 117, 115, 101]⟩
abbrev sW : Str := ⟨#[119, 97, 118, 101]⟩
abbrev sD : Str := ⟨#[100, 97, 121, 115]⟩
abbrev sS : Str := ⟨#[115, 105, 108, 101, 110, 116]⟩
abbrev sC : Str := ⟨#[100, 101, 99, 108, 105, 110, 101, 100]⟩
def hws (a b s t : Str) : List Str := [sH, sW, a, sD, b, sS, s, sC, t]
theorem htx_join (w d : Int) (s t : Str) : htx w d s t = Txt.join ⟨#[32]⟩ (hws (toString w) (toString d) s t) := by
  refine ext_tl ?_
  rw [join_eq, tl_join]
  unfold htx hws
  simp only [tl_append, List.map_cons, List.map_nil, joinL]
  simp [tl]
theorem wd_free {s : Str} (h : s ∈ wds) : 32 ∉ tl s := by
  simp only [wds, List.mem_cons, List.not_mem_nil, or_false] at h
  rcases h with rfl | rfl | rfl <;> decide
theorem nm_free {w : Int} (h : 1 ≤ w ∧ w ≤ 9) : 32 ∉ tl (toString w : Str) ∧ ∀ c ∈ tl (toString w : Str), c < 128 := by
  have : w = 1 ∨ w = 2 ∨ w = 3 ∨ w = 4 ∨ w = 5 ∨ w = 6 ∨ w = 7 ∨ w = 8 ∨ w = 9 := by omega
  rcases this with rfl | rfl | rfl | rfl | rfl | rfl | rfl | rfl | rfl <;> exact ⟨by decide +kernel, by decide +kernel⟩
theorem wd_pl {s : Str} (h : s ∈ wds) : Pl 4 s := by
  simp only [wds, List.mem_cons, List.not_mem_nil, or_false] at h
  rcases h with rfl | rfl | rfl <;> exact ⟨by decide, by decide⟩
theorem htx_split {w d : Int} {s t : Str} (r : Ru w d s t) : Txt.split (htx w d s t) ⟨#[32]⟩ = hws (toString w) (toString d) s t := by
  rw [htx_join]
  refine split_join (s := 32) (S := []) rfl (by simp) (by simp [hws]) fun p hp => ?_
  simp only [hws, List.mem_cons, List.not_mem_nil, or_false] at hp
  rcases hp with rfl | rfl | rfl | rfl | rfl | rfl | rfl | rfl | rfl
  · decide
  · decide
  · exact (nm_free ⟨r.w.1, by have := r.w.2; omega⟩).1
  · decide
  · exact (nm_free r.d).1
  · decide
  · exact wd_free r.s
  · decide
  · exact wd_free r.t
theorem htx_pl {w d : Int} {s t : Str} (r : Ru w d s t) : Pl 100 (htx w d s t) := by
  rw [htx_join]
  refine Pl.join (fun p hp => ?_) ?_
  · simp only [hws, List.mem_cons, List.not_mem_nil, or_false] at hp
    rcases hp with rfl | rfl | rfl | rfl | rfl | rfl | rfl | rfl | rfl
    · decide
    · decide
    · exact (nm_free ⟨r.w.1, by have := r.w.2; omega⟩).2
    · decide
    · exact (nm_free r.d).2
    · decide
    · exact (wd_pl r.s).pl
    · decide
    · exact (wd_pl r.t).pl
  · have h1 : (toString w : Str).length ≤ 1 := by
      have : w = 1 ∨ w = 2 ∨ w = 3 := by have := r.w; omega
      rcases this with rfl | rfl | rfl <;> decide +kernel
    have h2 : (toString d : Str).length ≤ 1 := by
      have : d = 1 ∨ d = 2 ∨ d = 3 ∨ d = 4 ∨ d = 5 ∨ d = 6 ∨ d = 7 ∨ d = 8 ∨ d = 9 := by have := r.d; omega
      rcases this with rfl | rfl | rfl | rfl | rfl | rfl | rfl | rfl | rfl <;> decide +kernel
    have h3 := (wd_pl r.s).len
    have h4 := (wd_pl r.t).len
    simp only [hws, List.map_cons, List.map_nil, List.sum_cons, List.sum_nil, List.length_cons, List.length_nil]
    have e1 : sH.length = 5 := rfl
    have e2 : sW.length = 4 := rfl
    have e3 : sD.length = 4 := rfl
    have e4 : sS.length = 6 := rfl
    have e5 : sC.length = 8 := rfl
    omega
/-- a digit -/
theorem dig_of {x : Str} {ds : List Nat} (hl : x.length = 1) (hd : (!(Builtin.Str.occurrences ⟨ds.toArray⟩ x 0 (⟨ds.toArray⟩ : Str).length 1).isEmpty) = true) : ∃ c ∈ ds, x = ⟨#[c]⟩ := by
  have h1 : (tl x).length = 1 := by rw [← len_tl]; exact hl
  obtain ⟨c, hc⟩ : ∃ c, tl x = [c] := by
    match h : tl x, h1 with
    | [c], _ => exact ⟨c, rfl⟩
  have hx : x = ⟨#[c]⟩ := ext_tl hc
  subst hx
  have := StrLaws.found_one ⟨ds.toArray⟩ c
  rw [this] at hd
  exact ⟨c, by simpa using hd, rfl⟩
theorem dig3 {x : Str} (h : ∃ c ∈ [49, 50, 51], x = ⟨#[c]⟩) : ∃ w : Int, (1 ≤ w ∧ w ≤ 3) ∧ x = toString w := by
  obtain ⟨c, hc, rfl⟩ := h
  simp only [List.mem_cons, List.not_mem_nil, or_false] at hc
  rcases hc with rfl | rfl | rfl
  · exact ⟨1, by decide, by decide +kernel⟩
  · exact ⟨2, by decide, by decide +kernel⟩
  · exact ⟨3, by decide, by decide +kernel⟩
theorem dig9 {x : Str} (h : ∃ c ∈ [49, 50, 51, 52, 53, 54, 55, 56, 57], x = ⟨#[c]⟩) : ∃ w : Int, (1 ≤ w ∧ w ≤ 9) ∧ x = toString w := by
  obtain ⟨c, hc, rfl⟩ := h
  simp only [List.mem_cons, List.not_mem_nil, or_false] at hc
  rcases hc with rfl | rfl | rfl | rfl | rfl | rfl | rfl | rfl | rfl
  · exact ⟨1, by decide, by decide +kernel⟩
  · exact ⟨2, by decide, by decide +kernel⟩
  · exact ⟨3, by decide, by decide +kernel⟩
  · exact ⟨4, by decide, by decide +kernel⟩
  · exact ⟨5, by decide, by decide +kernel⟩
  · exact ⟨6, by decide, by decide +kernel⟩
  · exact ⟨7, by decide, by decide +kernel⟩
  · exact ⟨8, by decide, by decide +kernel⟩
  · exact ⟨9, by decide, by decide +kernel⟩
/-- a text is a house's -/
def IsH (x : Str) : Prop := ∃ w d s t, Ru w d s t ∧ x = htx w d s t
theorem nine {x : Str} (h : (Txt.split x ⟨#[32]⟩).length = 9) : ∃ w0 w1 w2 w3 w4 w5 w6 w7 w8, Txt.split x ⟨#[32]⟩ = [w0, w1, w2, w3, w4, w5, w6, w7, w8] := by
  match e : Txt.split x ⟨#[32]⟩, h with
  | [w0, w1, w2, w3, w4, w5, w6, w7, w8], _ => exact ⟨w0, w1, w2, w3, w4, w5, w6, w7, w8, rfl⟩
theorem isH_of {x : Str} {w d : Int} {s t : Str} (r : Ru w d s t) (h : Txt.split x ⟨#[32]⟩ = hws (toString w) (toString d) s t) : x = htx w d s t := by
  rw [htx_join, ← h, split1_join x 32 (by decide)]
/-! ### what is due -/
theorem lenS {x : Str} {st : Sto} (h : x.length ≤ 100000) : bLen [.str x] st = .ok (.int (x.length : Nat)) st := by
  simp only [bLen, lenOf, if_pos (show x.length ≤ 16777216 by omega)]
theorem splitR {x : Str} {mt : Bool} {st : Sto} (h : x.length ≤ 100000) : oSplit mt (.str x) (.str ⟨#[32]⟩) st = newL mt ((Txt.split x ⟨#[32]⟩).map .str) st := by
  have : ((⟨#[32]⟩ : Str).length == 0) = false ∧ x.length + 2 ≤ 16777216 := ⟨rfl, by omega⟩
  simp only [oSplit, if_pos this]
theorem ninS {x : Str} {st : Sto} : oNotIn (.str x) (.lv [.str ⟨#[107, 101, 101, 112]⟩, .str ⟨#[98, 97, 99, 107]⟩, .str ⟨#[111, 117, 116]⟩]) st = .ok (.bl (!decide (x ∈ wds))) st := by
  have e : oNotIn (.str x) (.lv [.str ⟨#[107, 101, 101, 112]⟩, .str ⟨#[98, 97, 99, 107]⟩, .str ⟨#[111, 117, 116]⟩]) st = .ok (.bl (!([PV.str ⟨#[107, 101, 101, 112]⟩, .str ⟨#[98, 97, 99, 107]⟩, .str ⟨#[111, 117, 116]⟩].any fun z => eqP z (.str x)))) st := rfl
  rw [e]
  congr 3
  rw [Bool.eq_iff_iff]
  simp only [List.any_cons, List.any_nil, Bool.or_false, eqP, Bool.or_eq_true, beq_iff_eq, decide_eq_true_eq, wds, List.mem_cons, List.not_mem_nil, or_false]
  constructor
  · rintro (h | h | h)
    · exact .inl h.symm
    · exact .inr (.inl h.symm)
    · exact .inr (.inr h.symm)
  · rintro (h | h | h)
    · exact .inl h.symm
    · exact .inr (.inl h.symm)
    · exact .inr (.inr h.symm)
def sText : Str := ⟨#[116, 101, 120, 116]⟩
def sTold : Str := ⟨#[116, 111, 108, 100]⟩
def inB (ds : List Nat) (x : Str) : Bool := !(Builtin.Str.occurrences ⟨ds.toArray⟩ x 0 (⟨ds.toArray⟩ : Str).length 1).isEmpty
theorem ninD {x : Str} {ds : List Nat} {st : Sto} : oNotIn (.str x) (.str ⟨ds.toArray⟩) st = .ok (.bl (!inB ds x)) st := rfl
theorem lenV {n : Nat} {xs : List Str} {st : Sto} (h : xs.length = n) : bLen [.lv (xs.map .str)] st = .ok (.int (n : Nat)) st := by
  subst h
  rw [r_lenL, List.length_map]
/-- what nine words tell -/
def due9 (w0 w1 w2 w3 w4 w5 w6 w7 w8 : Str) : Bool := decide ([w0, w1, w3, w5, w7] = [sH, sW, sD, sS, sC]) && (decide (w2.length = 1) && inB [49, 50, 51] w2 && (decide (w4.length = 1) && inB [49, 50, 51, 52, 53, 54, 55, 56, 57] w4)) && (decide (w6 ∈ wds) && decide (w8 ∈ wds))
theorem dec_len {n m : Nat} : decide (((n : Nat) : Int) = (m : Nat)) = decide (n = m) := by
  rw [Bool.eq_iff_iff, decide_eq_true_eq, decide_eq_true_eq]; omega
theorem due10 {k : Nat} {x : Str} {st : Sto} (P : Pl 100000 x) : ∃ b : Bool, callK T2 (k + 1) 10 [.str x] st = .ok (.lv [.str (if b then sTold else sText), .str (reprText x)]) st ∧ (b = true ↔ IsH x) := by
  have hs : startE s10.N.length [.str x] = [some (.str x), none, none] := rfl
  have hr : ∀ z, bRepr [.str x] z = .ok (.str (reprText x)) z := fun z => pl_repr P (Nat.le_refl _)
  have hsp : ∀ z, oSplit false (.str x) (.str ⟨#[32]⟩) z = .ok (.lv ((Txt.split x ⟨#[32]⟩).map .str)) z := fun z => splitR P.len
  by_cases h9 : (Txt.split x ⟨#[32]⟩).length = 9
  · obtain ⟨w0, w1, w2, w3, w4, w5, w6, w7, w8, e9⟩ := nine h9
    have hp : ∀ p ∈ [w0, w1, w2, w3, w4, w5, w6, w7, w8], Pl 100000 p := fun p hp => P.part (s := 32) (by decide) (by rw [e9]; exact hp)
    have l2 : ∀ z, bLen [.str w2] z = .ok (.int (w2.length : Nat)) z := fun z => lenS (hp w2 (by simp)).len
    have l4 : ∀ z, bLen [.str w4] z = .ok (.int (w4.length : Nat)) z := fun z => lenS (hp w4 (by simp)).len
    have hne : ∀ z, oNe (.lv [.str w0, .str w1, .str w3, .str w5, .str w7]) (.lv [.str sH, .str sW, .str sD, .str sS, .str sC]) z = .ok (.bl (!decide ([w0, w1, w3, w5, w7] = [sH, sW, sD, sS, sC]))) z := fun z => by
      have := eq_strs (st := z) (xs := [w0, w1, w3, w5, w7]) (ys := [sH, sW, sD, sS, sC]) (fun p h => pl_ok (hp p (by simp only [List.mem_cons, List.not_mem_nil, or_false] at h ⊢; rcases h with h | h | h | h | h <;> simp [h]))) (by decide +kernel)
      simp only [List.map_cons, List.map_nil] at this
      simp only [oNe, this]
    refine ⟨due9 w0 w1 w2 w3 w4 w5 w6 w7 w8, callK_iso (fi := ⟨s10.ps, s10.N, b10⟩) (s := []) rfl rfl rfl ?_ rfl, ?_⟩
    · have body : ∀ (c1 c2 c3 c4 c5 c6 c7 : Bool), decide ([w0, w1, w3, w5, w7] = [sH, sW, sD, sS, sC]) = c1 → decide (((w2.length : Nat) : Int) = 1) = c2 → inB [49, 50, 51] w2 = c3 → decide (((w4.length : Nat) : Int) = 1) = c4 → inB [49, 50, 51, 52, 53, 54, 55, 56, 57] w4 = c5 → decide (w6 ∈ wds) = c6 → decide (w8 ∈ wds) = c7 →
          endF (b10 (callK T2 k) (startE s10.N.length [.str x]) []) = .ok (.lv [.str (if c1 && (c2 && c3 && (c4 && c5)) && (c6 && c7) then sTold else sText), .str (reprText x)]) [] := by
        intro c1 c2 c3 c4 c5 c6 c7 g1 g2 g3 g4 g5 g6 g7
        have i3 : ∀ z, oNotIn (.str w2) (.str ⟨#[49, 50, 51]⟩) z = .ok (.bl (!c3)) z := fun z => by rw [← g3]; rfl
        have i5 : ∀ z, oNotIn (.str w4) (.str ⟨#[49, 50, 51, 52, 53, 54, 55, 56, 57]⟩) z = .ok (.bl (!c5)) z := fun z => by rw [← g5]; rfl
        have n9 : ((9 : Nat) : Int) = 9 := rfl
        cases c1
        · simp only [hs, b10, bnd_ok, bnd_exc, bnd_bad, at_ok, at_exc, at_bad, nxt_nx, nxt_rt, nxt_ex, nxt_bk, nxt_ct, nxt_bad, trn_nx, trn_ct, trn_bk, trn_rt, trn_ex, endF_rt, endF_nx, endF_ex, optR_some, getV_some, q_V, q_K, q_1, q_2, q_nil, q_cons, q_N, q_tup, q_lst, q_newT, q_newF, q_ifE, q_and, q_or, q_not, blR_bl, q_bl, q_val, q_dAnd, q_dOr, q_dNot, q_chain, q_call, q_callK, q_new, q_newK, q_cut, intR_int, q_partN, q_partS, q_src, q_lm, q_sNil, q_seq, q_ex, q_ret, q_retN, q_if, q_asg, q_par, q_par3, q_sub, q_gNm, q_for, forR_seq, forR_cell, forSeq_nil, q_comp, compR_seq, compR_cell, compSeq_nil, r_addI, r_addT, r_addL, r_subI, r_mulI, r_divI, r_modI, r_eqI, r_neI, r_eqS, r_neS, r_ltI, r_leI, r_gtI, r_geI, r_int, r_intB, r_abs, r_max, r_min, r_divmod, r_lenL, r_lenT, r_lenF, q_rng1, q_setAt, r_cutL, r_cutF, r_cutT, r_isN, r_isI, noX_ok, q_gTp2, q_gTp3, q_gTq2, q_gTq3, q_gSb, r_ixT, r_ixL, r_ixF, srcT, srcL, srcF, tr_bl, tr_int, wipeE, List.set_cons_zero, List.set_cons_succ, List.getElem?_cons_zero, List.getElem?_cons_succ, List.length_cons, List.length_nil, Nat.reduceAdd, Nat.reduceLeDiff, ↓reduceIte, Bool.false_eq_true, Bool.not_true, Bool.not_false, decide_true, decide_false, q_xnew, q_xnew0, mkX1, mkX2, pick0, pickA, pickK_some, pickDf, pickD_some, q_newSel, q_callSel, tryK_nx, tryK_rt, tryK_ex, q_tryX, cauK_ok, cauK_exc, q_caught, strRes_str, ownRes_bl, q_sm, strK_str, q_2F, q_NF, q_raise, excK_xv, q_rng2, at0, at1, at2, at3, at4, at5, at6, at7, at8, wp_ok, wp_exc, nxQ_nx, nxQ_rt, nxQ_ct, nxQ_bk, nxQ_ex, trQ_nx, trQ_ct, trQ_bk, trQ_rt, trQ_ex, enQ_rt, enQ_nx, enQ_ex, hsp, e9, List.map_cons, List.map_nil, hne, hr, l2, l4, i3, i5, ninS, g1, g2, g4, g6, g7, n9, Bool.and_true, Bool.and_false, Bool.and_self, Bool.true_and, Bool.false_and, sText, sTold]
        cases c2
        · simp only [hs, b10, bnd_ok, bnd_exc, bnd_bad, at_ok, at_exc, at_bad, nxt_nx, nxt_rt, nxt_ex, nxt_bk, nxt_ct, nxt_bad, trn_nx, trn_ct, trn_bk, trn_rt, trn_ex, endF_rt, endF_nx, endF_ex, optR_some, getV_some, q_V, q_K, q_1, q_2, q_nil, q_cons, q_N, q_tup, q_lst, q_newT, q_newF, q_ifE, q_and, q_or, q_not, blR_bl, q_bl, q_val, q_dAnd, q_dOr, q_dNot, q_chain, q_call, q_callK, q_new, q_newK, q_cut, intR_int, q_partN, q_partS, q_src, q_lm, q_sNil, q_seq, q_ex, q_ret, q_retN, q_if, q_asg, q_par, q_par3, q_sub, q_gNm, q_for, forR_seq, forR_cell, forSeq_nil, q_comp, compR_seq, compR_cell, compSeq_nil, r_addI, r_addT, r_addL, r_subI, r_mulI, r_divI, r_modI, r_eqI, r_neI, r_eqS, r_neS, r_ltI, r_leI, r_gtI, r_geI, r_int, r_intB, r_abs, r_max, r_min, r_divmod, r_lenL, r_lenT, r_lenF, q_rng1, q_setAt, r_cutL, r_cutF, r_cutT, r_isN, r_isI, noX_ok, q_gTp2, q_gTp3, q_gTq2, q_gTq3, q_gSb, r_ixT, r_ixL, r_ixF, srcT, srcL, srcF, tr_bl, tr_int, wipeE, List.set_cons_zero, List.set_cons_succ, List.getElem?_cons_zero, List.getElem?_cons_succ, List.length_cons, List.length_nil, Nat.reduceAdd, Nat.reduceLeDiff, ↓reduceIte, Bool.false_eq_true, Bool.not_true, Bool.not_false, decide_true, decide_false, q_xnew, q_xnew0, mkX1, mkX2, pick0, pickA, pickK_some, pickDf, pickD_some, q_newSel, q_callSel, tryK_nx, tryK_rt, tryK_ex, q_tryX, cauK_ok, cauK_exc, q_caught, strRes_str, ownRes_bl, q_sm, strK_str, q_2F, q_NF, q_raise, excK_xv, q_rng2, at0, at1, at2, at3, at4, at5, at6, at7, at8, wp_ok, wp_exc, nxQ_nx, nxQ_rt, nxQ_ct, nxQ_bk, nxQ_ex, trQ_nx, trQ_ct, trQ_bk, trQ_rt, trQ_ex, enQ_rt, enQ_nx, enQ_ex, hsp, e9, List.map_cons, List.map_nil, hne, hr, l2, l4, i3, i5, ninS, g1, g2, g4, g6, g7, n9, Bool.and_true, Bool.and_false, Bool.and_self, Bool.true_and, Bool.false_and, sText, sTold]
        cases c3
        · simp only [hs, b10, bnd_ok, bnd_exc, bnd_bad, at_ok, at_exc, at_bad, nxt_nx, nxt_rt, nxt_ex, nxt_bk, nxt_ct, nxt_bad, trn_nx, trn_ct, trn_bk, trn_rt, trn_ex, endF_rt, endF_nx, endF_ex, optR_some, getV_some, q_V, q_K, q_1, q_2, q_nil, q_cons, q_N, q_tup, q_lst, q_newT, q_newF, q_ifE, q_and, q_or, q_not, blR_bl, q_bl, q_val, q_dAnd, q_dOr, q_dNot, q_chain, q_call, q_callK, q_new, q_newK, q_cut, intR_int, q_partN, q_partS, q_src, q_lm, q_sNil, q_seq, q_ex, q_ret, q_retN, q_if, q_asg, q_par, q_par3, q_sub, q_gNm, q_for, forR_seq, forR_cell, forSeq_nil, q_comp, compR_seq, compR_cell, compSeq_nil, r_addI, r_addT, r_addL, r_subI, r_mulI, r_divI, r_modI, r_eqI, r_neI, r_eqS, r_neS, r_ltI, r_leI, r_gtI, r_geI, r_int, r_intB, r_abs, r_max, r_min, r_divmod, r_lenL, r_lenT, r_lenF, q_rng1, q_setAt, r_cutL, r_cutF, r_cutT, r_isN, r_isI, noX_ok, q_gTp2, q_gTp3, q_gTq2, q_gTq3, q_gSb, r_ixT, r_ixL, r_ixF, srcT, srcL, srcF, tr_bl, tr_int, wipeE, List.set_cons_zero, List.set_cons_succ, List.getElem?_cons_zero, List.getElem?_cons_succ, List.length_cons, List.length_nil, Nat.reduceAdd, Nat.reduceLeDiff, ↓reduceIte, Bool.false_eq_true, Bool.not_true, Bool.not_false, decide_true, decide_false, q_xnew, q_xnew0, mkX1, mkX2, pick0, pickA, pickK_some, pickDf, pickD_some, q_newSel, q_callSel, tryK_nx, tryK_rt, tryK_ex, q_tryX, cauK_ok, cauK_exc, q_caught, strRes_str, ownRes_bl, q_sm, strK_str, q_2F, q_NF, q_raise, excK_xv, q_rng2, at0, at1, at2, at3, at4, at5, at6, at7, at8, wp_ok, wp_exc, nxQ_nx, nxQ_rt, nxQ_ct, nxQ_bk, nxQ_ex, trQ_nx, trQ_ct, trQ_bk, trQ_rt, trQ_ex, enQ_rt, enQ_nx, enQ_ex, hsp, e9, List.map_cons, List.map_nil, hne, hr, l2, l4, i3, i5, ninS, g1, g2, g4, g6, g7, n9, Bool.and_true, Bool.and_false, Bool.and_self, Bool.true_and, Bool.false_and, sText, sTold]
        cases c4
        · simp only [hs, b10, bnd_ok, bnd_exc, bnd_bad, at_ok, at_exc, at_bad, nxt_nx, nxt_rt, nxt_ex, nxt_bk, nxt_ct, nxt_bad, trn_nx, trn_ct, trn_bk, trn_rt, trn_ex, endF_rt, endF_nx, endF_ex, optR_some, getV_some, q_V, q_K, q_1, q_2, q_nil, q_cons, q_N, q_tup, q_lst, q_newT, q_newF, q_ifE, q_and, q_or, q_not, blR_bl, q_bl, q_val, q_dAnd, q_dOr, q_dNot, q_chain, q_call, q_callK, q_new, q_newK, q_cut, intR_int, q_partN, q_partS, q_src, q_lm, q_sNil, q_seq, q_ex, q_ret, q_retN, q_if, q_asg, q_par, q_par3, q_sub, q_gNm, q_for, forR_seq, forR_cell, forSeq_nil, q_comp, compR_seq, compR_cell, compSeq_nil, r_addI, r_addT, r_addL, r_subI, r_mulI, r_divI, r_modI, r_eqI, r_neI, r_eqS, r_neS, r_ltI, r_leI, r_gtI, r_geI, r_int, r_intB, r_abs, r_max, r_min, r_divmod, r_lenL, r_lenT, r_lenF, q_rng1, q_setAt, r_cutL, r_cutF, r_cutT, r_isN, r_isI, noX_ok, q_gTp2, q_gTp3, q_gTq2, q_gTq3, q_gSb, r_ixT, r_ixL, r_ixF, srcT, srcL, srcF, tr_bl, tr_int, wipeE, List.set_cons_zero, List.set_cons_succ, List.getElem?_cons_zero, List.getElem?_cons_succ, List.length_cons, List.length_nil, Nat.reduceAdd, Nat.reduceLeDiff, ↓reduceIte, Bool.false_eq_true, Bool.not_true, Bool.not_false, decide_true, decide_false, q_xnew, q_xnew0, mkX1, mkX2, pick0, pickA, pickK_some, pickDf, pickD_some, q_newSel, q_callSel, tryK_nx, tryK_rt, tryK_ex, q_tryX, cauK_ok, cauK_exc, q_caught, strRes_str, ownRes_bl, q_sm, strK_str, q_2F, q_NF, q_raise, excK_xv, q_rng2, at0, at1, at2, at3, at4, at5, at6, at7, at8, wp_ok, wp_exc, nxQ_nx, nxQ_rt, nxQ_ct, nxQ_bk, nxQ_ex, trQ_nx, trQ_ct, trQ_bk, trQ_rt, trQ_ex, enQ_rt, enQ_nx, enQ_ex, hsp, e9, List.map_cons, List.map_nil, hne, hr, l2, l4, i3, i5, ninS, g1, g2, g4, g6, g7, n9, Bool.and_true, Bool.and_false, Bool.and_self, Bool.true_and, Bool.false_and, sText, sTold]
        cases c5
        · simp only [hs, b10, bnd_ok, bnd_exc, bnd_bad, at_ok, at_exc, at_bad, nxt_nx, nxt_rt, nxt_ex, nxt_bk, nxt_ct, nxt_bad, trn_nx, trn_ct, trn_bk, trn_rt, trn_ex, endF_rt, endF_nx, endF_ex, optR_some, getV_some, q_V, q_K, q_1, q_2, q_nil, q_cons, q_N, q_tup, q_lst, q_newT, q_newF, q_ifE, q_and, q_or, q_not, blR_bl, q_bl, q_val, q_dAnd, q_dOr, q_dNot, q_chain, q_call, q_callK, q_new, q_newK, q_cut, intR_int, q_partN, q_partS, q_src, q_lm, q_sNil, q_seq, q_ex, q_ret, q_retN, q_if, q_asg, q_par, q_par3, q_sub, q_gNm, q_for, forR_seq, forR_cell, forSeq_nil, q_comp, compR_seq, compR_cell, compSeq_nil, r_addI, r_addT, r_addL, r_subI, r_mulI, r_divI, r_modI, r_eqI, r_neI, r_eqS, r_neS, r_ltI, r_leI, r_gtI, r_geI, r_int, r_intB, r_abs, r_max, r_min, r_divmod, r_lenL, r_lenT, r_lenF, q_rng1, q_setAt, r_cutL, r_cutF, r_cutT, r_isN, r_isI, noX_ok, q_gTp2, q_gTp3, q_gTq2, q_gTq3, q_gSb, r_ixT, r_ixL, r_ixF, srcT, srcL, srcF, tr_bl, tr_int, wipeE, List.set_cons_zero, List.set_cons_succ, List.getElem?_cons_zero, List.getElem?_cons_succ, List.length_cons, List.length_nil, Nat.reduceAdd, Nat.reduceLeDiff, ↓reduceIte, Bool.false_eq_true, Bool.not_true, Bool.not_false, decide_true, decide_false, q_xnew, q_xnew0, mkX1, mkX2, pick0, pickA, pickK_some, pickDf, pickD_some, q_newSel, q_callSel, tryK_nx, tryK_rt, tryK_ex, q_tryX, cauK_ok, cauK_exc, q_caught, strRes_str, ownRes_bl, q_sm, strK_str, q_2F, q_NF, q_raise, excK_xv, q_rng2, at0, at1, at2, at3, at4, at5, at6, at7, at8, wp_ok, wp_exc, nxQ_nx, nxQ_rt, nxQ_ct, nxQ_bk, nxQ_ex, trQ_nx, trQ_ct, trQ_bk, trQ_rt, trQ_ex, enQ_rt, enQ_nx, enQ_ex, hsp, e9, List.map_cons, List.map_nil, hne, hr, l2, l4, i3, i5, ninS, g1, g2, g4, g6, g7, n9, Bool.and_true, Bool.and_false, Bool.and_self, Bool.true_and, Bool.false_and, sText, sTold]
        cases c6
        · simp only [hs, b10, bnd_ok, bnd_exc, bnd_bad, at_ok, at_exc, at_bad, nxt_nx, nxt_rt, nxt_ex, nxt_bk, nxt_ct, nxt_bad, trn_nx, trn_ct, trn_bk, trn_rt, trn_ex, endF_rt, endF_nx, endF_ex, optR_some, getV_some, q_V, q_K, q_1, q_2, q_nil, q_cons, q_N, q_tup, q_lst, q_newT, q_newF, q_ifE, q_and, q_or, q_not, blR_bl, q_bl, q_val, q_dAnd, q_dOr, q_dNot, q_chain, q_call, q_callK, q_new, q_newK, q_cut, intR_int, q_partN, q_partS, q_src, q_lm, q_sNil, q_seq, q_ex, q_ret, q_retN, q_if, q_asg, q_par, q_par3, q_sub, q_gNm, q_for, forR_seq, forR_cell, forSeq_nil, q_comp, compR_seq, compR_cell, compSeq_nil, r_addI, r_addT, r_addL, r_subI, r_mulI, r_divI, r_modI, r_eqI, r_neI, r_eqS, r_neS, r_ltI, r_leI, r_gtI, r_geI, r_int, r_intB, r_abs, r_max, r_min, r_divmod, r_lenL, r_lenT, r_lenF, q_rng1, q_setAt, r_cutL, r_cutF, r_cutT, r_isN, r_isI, noX_ok, q_gTp2, q_gTp3, q_gTq2, q_gTq3, q_gSb, r_ixT, r_ixL, r_ixF, srcT, srcL, srcF, tr_bl, tr_int, wipeE, List.set_cons_zero, List.set_cons_succ, List.getElem?_cons_zero, List.getElem?_cons_succ, List.length_cons, List.length_nil, Nat.reduceAdd, Nat.reduceLeDiff, ↓reduceIte, Bool.false_eq_true, Bool.not_true, Bool.not_false, decide_true, decide_false, q_xnew, q_xnew0, mkX1, mkX2, pick0, pickA, pickK_some, pickDf, pickD_some, q_newSel, q_callSel, tryK_nx, tryK_rt, tryK_ex, q_tryX, cauK_ok, cauK_exc, q_caught, strRes_str, ownRes_bl, q_sm, strK_str, q_2F, q_NF, q_raise, excK_xv, q_rng2, at0, at1, at2, at3, at4, at5, at6, at7, at8, wp_ok, wp_exc, nxQ_nx, nxQ_rt, nxQ_ct, nxQ_bk, nxQ_ex, trQ_nx, trQ_ct, trQ_bk, trQ_rt, trQ_ex, enQ_rt, enQ_nx, enQ_ex, hsp, e9, List.map_cons, List.map_nil, hne, hr, l2, l4, i3, i5, ninS, g1, g2, g4, g6, g7, n9, Bool.and_true, Bool.and_false, Bool.and_self, Bool.true_and, Bool.false_and, sText, sTold]
        cases c7
        · simp only [hs, b10, bnd_ok, bnd_exc, bnd_bad, at_ok, at_exc, at_bad, nxt_nx, nxt_rt, nxt_ex, nxt_bk, nxt_ct, nxt_bad, trn_nx, trn_ct, trn_bk, trn_rt, trn_ex, endF_rt, endF_nx, endF_ex, optR_some, getV_some, q_V, q_K, q_1, q_2, q_nil, q_cons, q_N, q_tup, q_lst, q_newT, q_newF, q_ifE, q_and, q_or, q_not, blR_bl, q_bl, q_val, q_dAnd, q_dOr, q_dNot, q_chain, q_call, q_callK, q_new, q_newK, q_cut, intR_int, q_partN, q_partS, q_src, q_lm, q_sNil, q_seq, q_ex, q_ret, q_retN, q_if, q_asg, q_par, q_par3, q_sub, q_gNm, q_for, forR_seq, forR_cell, forSeq_nil, q_comp, compR_seq, compR_cell, compSeq_nil, r_addI, r_addT, r_addL, r_subI, r_mulI, r_divI, r_modI, r_eqI, r_neI, r_eqS, r_neS, r_ltI, r_leI, r_gtI, r_geI, r_int, r_intB, r_abs, r_max, r_min, r_divmod, r_lenL, r_lenT, r_lenF, q_rng1, q_setAt, r_cutL, r_cutF, r_cutT, r_isN, r_isI, noX_ok, q_gTp2, q_gTp3, q_gTq2, q_gTq3, q_gSb, r_ixT, r_ixL, r_ixF, srcT, srcL, srcF, tr_bl, tr_int, wipeE, List.set_cons_zero, List.set_cons_succ, List.getElem?_cons_zero, List.getElem?_cons_succ, List.length_cons, List.length_nil, Nat.reduceAdd, Nat.reduceLeDiff, ↓reduceIte, Bool.false_eq_true, Bool.not_true, Bool.not_false, decide_true, decide_false, q_xnew, q_xnew0, mkX1, mkX2, pick0, pickA, pickK_some, pickDf, pickD_some, q_newSel, q_callSel, tryK_nx, tryK_rt, tryK_ex, q_tryX, cauK_ok, cauK_exc, q_caught, strRes_str, ownRes_bl, q_sm, strK_str, q_2F, q_NF, q_raise, excK_xv, q_rng2, at0, at1, at2, at3, at4, at5, at6, at7, at8, wp_ok, wp_exc, nxQ_nx, nxQ_rt, nxQ_ct, nxQ_bk, nxQ_ex, trQ_nx, trQ_ct, trQ_bk, trQ_rt, trQ_ex, enQ_rt, enQ_nx, enQ_ex, hsp, e9, List.map_cons, List.map_nil, hne, hr, l2, l4, i3, i5, ninS, g1, g2, g4, g6, g7, n9, Bool.and_true, Bool.and_false, Bool.and_self, Bool.true_and, Bool.false_and, sText, sTold]
        · simp only [hs, b10, bnd_ok, bnd_exc, bnd_bad, at_ok, at_exc, at_bad, nxt_nx, nxt_rt, nxt_ex, nxt_bk, nxt_ct, nxt_bad, trn_nx, trn_ct, trn_bk, trn_rt, trn_ex, endF_rt, endF_nx, endF_ex, optR_some, getV_some, q_V, q_K, q_1, q_2, q_nil, q_cons, q_N, q_tup, q_lst, q_newT, q_newF, q_ifE, q_and, q_or, q_not, blR_bl, q_bl, q_val, q_dAnd, q_dOr, q_dNot, q_chain, q_call, q_callK, q_new, q_newK, q_cut, intR_int, q_partN, q_partS, q_src, q_lm, q_sNil, q_seq, q_ex, q_ret, q_retN, q_if, q_asg, q_par, q_par3, q_sub, q_gNm, q_for, forR_seq, forR_cell, forSeq_nil, q_comp, compR_seq, compR_cell, compSeq_nil, r_addI, r_addT, r_addL, r_subI, r_mulI, r_divI, r_modI, r_eqI, r_neI, r_eqS, r_neS, r_ltI, r_leI, r_gtI, r_geI, r_int, r_intB, r_abs, r_max, r_min, r_divmod, r_lenL, r_lenT, r_lenF, q_rng1, q_setAt, r_cutL, r_cutF, r_cutT, r_isN, r_isI, noX_ok, q_gTp2, q_gTp3, q_gTq2, q_gTq3, q_gSb, r_ixT, r_ixL, r_ixF, srcT, srcL, srcF, tr_bl, tr_int, wipeE, List.set_cons_zero, List.set_cons_succ, List.getElem?_cons_zero, List.getElem?_cons_succ, List.length_cons, List.length_nil, Nat.reduceAdd, Nat.reduceLeDiff, ↓reduceIte, Bool.false_eq_true, Bool.not_true, Bool.not_false, decide_true, decide_false, q_xnew, q_xnew0, mkX1, mkX2, pick0, pickA, pickK_some, pickDf, pickD_some, q_newSel, q_callSel, tryK_nx, tryK_rt, tryK_ex, q_tryX, cauK_ok, cauK_exc, q_caught, strRes_str, ownRes_bl, q_sm, strK_str, q_2F, q_NF, q_raise, excK_xv, q_rng2, at0, at1, at2, at3, at4, at5, at6, at7, at8, wp_ok, wp_exc, nxQ_nx, nxQ_rt, nxQ_ct, nxQ_bk, nxQ_ex, trQ_nx, trQ_ct, trQ_bk, trQ_rt, trQ_ex, enQ_rt, enQ_nx, enQ_ex, hsp, e9, List.map_cons, List.map_nil, hne, hr, l2, l4, i3, i5, ninS, g1, g2, g4, g6, g7, n9, Bool.and_true, Bool.and_false, Bool.and_self, Bool.true_and, Bool.false_and, sText, sTold]
      rw [body _ _ _ _ _ _ _ rfl rfl rfl rfl rfl rfl rfl]
      have e1 : decide (((w2.length : Nat) : Int) = 1) = decide (w2.length = 1) := dec_len (m := 1)
      have e2 : decide (((w4.length : Nat) : Int) = 1) = decide (w4.length = 1) := dec_len (m := 1)
      rw [e1, e2]
      rfl
    · constructor
      · intro h
        simp only [due9, Bool.and_eq_true, decide_eq_true_eq] at h
        obtain ⟨⟨h1, ⟨h2, h3⟩, h4, h5⟩, h6, h7⟩ := h
        obtain ⟨w, hw, rfl⟩ := dig3 (dig_of h2 h3)
        obtain ⟨d, hd, rfl⟩ := dig9 (dig_of h4 h5)
        simp only [List.cons.injEq, and_true] at h1
        obtain ⟨rfl, rfl, rfl, rfl, rfl⟩ := h1
        exact ⟨w, d, w6, w8, ⟨hw, hd, h6, h7⟩, isH_of ⟨hw, hd, h6, h7⟩ e9⟩
      · rintro ⟨w, d, s, t, r, rfl⟩
        rw [htx_split r] at e9
        simp only [hws, List.cons.injEq, and_true] at e9
        obtain ⟨rfl, rfl, rfl, rfl, rfl, rfl, rfl, rfl, rfl⟩ := e9
        have h1 : (decide ((toString w : Str).length = 1) && inB [49, 50, 51] (toString w)) = true := by
          have : w = 1 ∨ w = 2 ∨ w = 3 := by have := r.w; omega
          rcases this with rfl | rfl | rfl <;> decide +kernel
        have h2 : (decide ((toString d : Str).length = 1) && inB [49, 50, 51, 52, 53, 54, 55, 56, 57] (toString d)) = true := by
          have : d = 1 ∨ d = 2 ∨ d = 3 ∨ d = 4 ∨ d = 5 ∨ d = 6 ∨ d = 7 ∨ d = 8 ∨ d = 9 := by have := r.d; omega
          rcases this with rfl | rfl | rfl | rfl | rfl | rfl | rfl | rfl | rfl <;> decide +kernel
        simp only [due9, h1, h2, decide_true, decide_eq_true r.s, decide_eq_true r.t, Bool.and_self]
  · refine ⟨false, callK_iso (fi := ⟨s10.ps, s10.N, b10⟩) (s := []) rfl rfl rfl ?_ rfl, ?_⟩
    · have e : decide (((Txt.split x ⟨#[32]⟩).map PV.str).length = 9) = false := by simpa using h9
      have e : decide (((((Txt.split x ⟨#[32]⟩).map PV.str).length : Nat) : Int) = 9) = false := by
        rw [← e]; exact dec_len (m := 9)
      simp only [hs, b10, bnd_ok, bnd_exc, bnd_bad, at_ok, at_exc, at_bad, nxt_nx, nxt_rt, nxt_ex, nxt_bk, nxt_ct, nxt_bad, trn_nx, trn_ct, trn_bk, trn_rt, trn_ex, endF_rt, endF_nx, endF_ex, optR_some, getV_some, q_V, q_K, q_1, q_2, q_nil, q_cons, q_N, q_tup, q_lst, q_newT, q_newF, q_ifE, q_and, q_or, q_not, blR_bl, q_bl, q_val, q_dAnd, q_dOr, q_dNot, q_chain, q_call, q_callK, q_new, q_newK, q_cut, intR_int, q_partN, q_partS, q_src, q_lm, q_sNil, q_seq, q_ex, q_ret, q_retN, q_if, q_asg, q_par, q_par3, q_sub, q_gNm, q_for, forR_seq, forR_cell, forSeq_nil, q_comp, compR_seq, compR_cell, compSeq_nil, r_addI, r_addT, r_addL, r_subI, r_mulI, r_divI, r_modI, r_eqI, r_neI, r_eqS, r_neS, r_ltI, r_leI, r_gtI, r_geI, r_int, r_intB, r_abs, r_max, r_min, r_divmod, r_lenL, r_lenT, r_lenF, q_rng1, q_setAt, r_cutL, r_cutF, r_cutT, r_isN, r_isI, noX_ok, q_gTp2, q_gTp3, q_gTq2, q_gTq3, q_gSb, r_ixT, r_ixL, r_ixF, srcT, srcL, srcF, tr_bl, tr_int, wipeE, List.set_cons_zero, List.set_cons_succ, List.getElem?_cons_zero, List.getElem?_cons_succ, List.length_cons, List.length_nil, Nat.reduceAdd, Nat.reduceLeDiff, ↓reduceIte, Bool.false_eq_true, Bool.not_true, Bool.not_false, decide_true, decide_false, q_xnew, q_xnew0, mkX1, mkX2, pick0, pickA, pickK_some, pickDf, pickD_some, q_newSel, q_callSel, tryK_nx, tryK_rt, tryK_ex, q_tryX, cauK_ok, cauK_exc, q_caught, strRes_str, ownRes_bl, q_sm, strK_str, q_2F, q_NF, q_raise, excK_xv, q_rng2, at0, at1, at2, at3, at4, at5, at6, at7, at8, wp_ok, wp_exc, nxQ_nx, nxQ_rt, nxQ_ct, nxQ_bk, nxQ_ex, trQ_nx, trQ_ct, trQ_bk, trQ_rt, trQ_ex, enQ_rt, enQ_nx, enQ_ex, hsp, hr, e, sText]
    · constructor
      · intro h; cases h
      · rintro ⟨w, d, s, t, r, rfl⟩
        rw [htx_split r] at h9
        exact absurd rfl h9
end Lw
set_option maxRecDepth 100000
set_option maxHeartbeats 0
namespace Lw
open PySem OL TL
/-! ### houses made and read -/
section
variable {k : Nat} {a b : Int} {s t x : Str} {st : Sto} {T : List FnI}
theorem isiI {i : Int} : bIsi gm.isa gm.xi [.int i, .ty 0] st = .ok (.bl true) st := (rfl)
theorem isiB {i : Int} : bIsi gm.isa gm.xi [.int i, .ty 1] st = .ok (.bl false) st := (rfl)
theorem isiS {x : Str} : bIsi gm.isa gm.xi [.str x, .ty 2] st = .ok (.bl true) st := (rfl)
theorem isiH : bIsi gm.isa gm.xi [hsV a b s t, .cls 0] st = .ok (.bl true) st := (rfl)
structure Hs (T : List FnI) : Prop where
  t0 : T[0]? = some ⟨s0.ps, s0.N, b0⟩
  t1 : T[1]? = some ⟨s1.ps, s1.N, b1⟩
  t2 : T[2]? = some ⟨s2.ps, s2.N, b2⟩
  t15 : T[15]? = some ⟨s15.ps, s15.N, b15⟩
theorem hs_T : Hs T2 := ⟨rfl, rfl, rfl, rfl⟩
theorem hs_N : Hs TN2 := ⟨rfl, rfl, rfl, rfl⟩
theorem int0 (h : Hs T) {i : Int} : callK T (k + 1) 0 [.int i] st = .ok (.bl true) st := by
  refine callK_iso (s := []) h.t0 rfl rfl ?_ rfl
  have hs : startE s0.N.length [.int i] = [some (.int i)] := rfl
  simp only [hs, b0, bnd_ok, bnd_exc, bnd_bad, at_ok, at_exc, at_bad, nxt_nx, nxt_rt, nxt_ex, nxt_bk, nxt_ct, nxt_bad, trn_nx, trn_ct, trn_bk, trn_rt, trn_ex, endF_rt, endF_nx, endF_ex, optR_some, getV_some, q_V, q_K, q_1, q_2, q_nil, q_cons, q_N, q_tup, q_lst, q_newT, q_newF, q_ifE, q_and, q_or, q_not, blR_bl, q_bl, q_val, q_dAnd, q_dOr, q_dNot, q_chain, q_call, q_callK, q_new, q_newK, q_cut, intR_int, q_partN, q_partS, q_src, q_lm, q_sNil, q_seq, q_ex, q_ret, q_retN, q_if, q_asg, q_par, q_par3, q_sub, q_gNm, q_for, forR_seq, forR_cell, forSeq_nil, q_comp, compR_seq, compR_cell, compSeq_nil, r_addI, r_addT, r_addL, r_subI, r_mulI, r_divI, r_modI, r_eqI, r_neI, r_eqS, r_neS, r_ltI, r_leI, r_gtI, r_geI, r_int, r_intB, r_abs, r_max, r_min, r_divmod, r_lenL, r_lenT, r_lenF, q_rng1, q_setAt, r_cutL, r_cutF, r_cutT, r_isN, r_isI, noX_ok, q_gTp2, q_gTp3, q_gTq2, q_gTq3, q_gSb, r_ixT, r_ixL, r_ixF, srcT, srcL, srcF, tr_bl, tr_int, wipeE, List.set_cons_zero, List.set_cons_succ, List.getElem?_cons_zero, List.getElem?_cons_succ, List.length_cons, List.length_nil, Nat.reduceAdd, Nat.reduceLeDiff, ↓reduceIte, Bool.false_eq_true, Bool.not_true, Bool.not_false, decide_true, decide_false, q_xnew, q_xnew0, mkX1, mkX2, pick0, pickA, pickK_some, pickDf, pickD_some, q_newSel, q_callSel, tryK_nx, tryK_rt, tryK_ex, q_tryX, cauK_ok, cauK_exc, q_caught, strRes_str, ownRes_bl, q_sm, strK_str, q_2F, q_NF, q_raise, excK_xv, q_rng2, at0, at1, at2, at3, at4, at5, at6, at7, at8, wp_ok, wp_exc, nxQ_nx, nxQ_rt, nxQ_ct, nxQ_bk, nxQ_ex, trQ_nx, trQ_ct, trQ_bk, trQ_rt, trQ_ex, enQ_rt, enQ_nx, enQ_ex, isiI, isiB]
theorem btw1 (h : Hs T) {i hi : Int} : callK T (k + 2) 1 [.int i, .int 1, .int hi] st = .ok (.bl (decide (1 ≤ i) && decide (i ≤ hi))) st := by
  refine callK_iso (s := []) h.t1 rfl rfl ?_ rfl
  have hs : startE s1.N.length [.int i, .int 1, .int hi] = [some (.int i), some (.int 1), some (.int hi)] := rfl
  by_cases g1 : 1 ≤ i
  · simp only [hs, b1, bnd_ok, bnd_exc, bnd_bad, at_ok, at_exc, at_bad, nxt_nx, nxt_rt, nxt_ex, nxt_bk, nxt_ct, nxt_bad, trn_nx, trn_ct, trn_bk, trn_rt, trn_ex, endF_rt, endF_nx, endF_ex, optR_some, getV_some, q_V, q_K, q_1, q_2, q_nil, q_cons, q_N, q_tup, q_lst, q_newT, q_newF, q_ifE, q_and, q_or, q_not, blR_bl, q_bl, q_val, q_dAnd, q_dOr, q_dNot, q_chain, q_call, q_callK, q_new, q_newK, q_cut, intR_int, q_partN, q_partS, q_src, q_lm, q_sNil, q_seq, q_ex, q_ret, q_retN, q_if, q_asg, q_par, q_par3, q_sub, q_gNm, q_for, forR_seq, forR_cell, forSeq_nil, q_comp, compR_seq, compR_cell, compSeq_nil, r_addI, r_addT, r_addL, r_subI, r_mulI, r_divI, r_modI, r_eqI, r_neI, r_eqS, r_neS, r_ltI, r_leI, r_gtI, r_geI, r_int, r_intB, r_abs, r_max, r_min, r_divmod, r_lenL, r_lenT, r_lenF, q_rng1, q_setAt, r_cutL, r_cutF, r_cutT, r_isN, r_isI, noX_ok, q_gTp2, q_gTp3, q_gTq2, q_gTq3, q_gSb, r_ixT, r_ixL, r_ixF, srcT, srcL, srcF, tr_bl, tr_int, wipeE, List.set_cons_zero, List.set_cons_succ, List.getElem?_cons_zero, List.getElem?_cons_succ, List.length_cons, List.length_nil, Nat.reduceAdd, Nat.reduceLeDiff, ↓reduceIte, Bool.false_eq_true, Bool.not_true, Bool.not_false, decide_true, decide_false, q_xnew, q_xnew0, mkX1, mkX2, pick0, pickA, pickK_some, pickDf, pickD_some, q_newSel, q_callSel, tryK_nx, tryK_rt, tryK_ex, q_tryX, cauK_ok, cauK_exc, q_caught, strRes_str, ownRes_bl, q_sm, strK_str, q_2F, q_NF, q_raise, excK_xv, q_rng2, at0, at1, at2, at3, at4, at5, at6, at7, at8, wp_ok, wp_exc, nxQ_nx, nxQ_rt, nxQ_ct, nxQ_bk, nxQ_ex, trQ_nx, trQ_ct, trQ_bk, trQ_rt, trQ_ex, enQ_rt, enQ_nx, enQ_ex, int0 h, decide_eq_true g1, Bool.true_and]
  · simp only [hs, b1, bnd_ok, bnd_exc, bnd_bad, at_ok, at_exc, at_bad, nxt_nx, nxt_rt, nxt_ex, nxt_bk, nxt_ct, nxt_bad, trn_nx, trn_ct, trn_bk, trn_rt, trn_ex, endF_rt, endF_nx, endF_ex, optR_some, getV_some, q_V, q_K, q_1, q_2, q_nil, q_cons, q_N, q_tup, q_lst, q_newT, q_newF, q_ifE, q_and, q_or, q_not, blR_bl, q_bl, q_val, q_dAnd, q_dOr, q_dNot, q_chain, q_call, q_callK, q_new, q_newK, q_cut, intR_int, q_partN, q_partS, q_src, q_lm, q_sNil, q_seq, q_ex, q_ret, q_retN, q_if, q_asg, q_par, q_par3, q_sub, q_gNm, q_for, forR_seq, forR_cell, forSeq_nil, q_comp, compR_seq, compR_cell, compSeq_nil, r_addI, r_addT, r_addL, r_subI, r_mulI, r_divI, r_modI, r_eqI, r_neI, r_eqS, r_neS, r_ltI, r_leI, r_gtI, r_geI, r_int, r_intB, r_abs, r_max, r_min, r_divmod, r_lenL, r_lenT, r_lenF, q_rng1, q_setAt, r_cutL, r_cutF, r_cutT, r_isN, r_isI, noX_ok, q_gTp2, q_gTp3, q_gTq2, q_gTq3, q_gSb, r_ixT, r_ixL, r_ixF, srcT, srcL, srcF, tr_bl, tr_int, wipeE, List.set_cons_zero, List.set_cons_succ, List.getElem?_cons_zero, List.getElem?_cons_succ, List.length_cons, List.length_nil, Nat.reduceAdd, Nat.reduceLeDiff, ↓reduceIte, Bool.false_eq_true, Bool.not_true, Bool.not_false, decide_true, decide_false, q_xnew, q_xnew0, mkX1, mkX2, pick0, pickA, pickK_some, pickDf, pickD_some, q_newSel, q_callSel, tryK_nx, tryK_rt, tryK_ex, q_tryX, cauK_ok, cauK_exc, q_caught, strRes_str, ownRes_bl, q_sm, strK_str, q_2F, q_NF, q_raise, excK_xv, q_rng2, at0, at1, at2, at3, at4, at5, at6, at7, at8, wp_ok, wp_exc, nxQ_nx, nxQ_rt, nxQ_ct, nxQ_bk, nxQ_ex, trQ_nx, trQ_ct, trQ_bk, trQ_rt, trQ_ex, enQ_rt, enQ_nx, enQ_ex, int0 h, decide_eq_false g1, Bool.false_and]
theorem inS {x : Str} : oIn (.str x) (.kt [.str ⟨#[107, 101, 101, 112]⟩, .str ⟨#[98, 97, 99, 107]⟩, .str ⟨#[111, 117, 116]⟩]) st = .ok (.bl (decide (x ∈ wds))) st := by
  have e : oIn (.str x) (.kt [.str ⟨#[107, 101, 101, 112]⟩, .str ⟨#[98, 97, 99, 107]⟩, .str ⟨#[111, 117, 116]⟩]) st = .ok (.bl ([PV.str ⟨#[107, 101, 101, 112]⟩, .str ⟨#[98, 97, 99, 107]⟩, .str ⟨#[111, 117, 116]⟩].any fun z => eqP z (.str x))) st := rfl
  rw [e]
  congr 2
  rw [Bool.eq_iff_iff]
  simp only [List.any_cons, List.any_nil, Bool.or_false, eqP, Bool.or_eq_true, beq_iff_eq, decide_eq_true_eq, wds, List.mem_cons, List.not_mem_nil, or_false]
  constructor
  · rintro (h | h | h)
    · exact .inl h.symm
    · exact .inr (.inl h.symm)
    · exact .inr (.inr h.symm)
  · rintro (h | h | h)
    · exact .inl h.symm
    · exact .inr (.inl h.symm)
    · exact .inr (.inr h.symm)
theorem word2 (h : Hs T) {x : Str} : callK T (k + 1) 2 [.str x] st = .ok (.bl (decide (x ∈ wds))) st := by
  refine callK_iso (s := []) h.t2 rfl rfl ?_ rfl
  have hs : startE s2.N.length [.str x] = [some (.str x)] := rfl
  simp only [hs, b2, bnd_ok, bnd_exc, bnd_bad, at_ok, at_exc, at_bad, nxt_nx, nxt_rt, nxt_ex, nxt_bk, nxt_ct, nxt_bad, trn_nx, trn_ct, trn_bk, trn_rt, trn_ex, endF_rt, endF_nx, endF_ex, optR_some, getV_some, q_V, q_K, q_1, q_2, q_nil, q_cons, q_N, q_tup, q_lst, q_newT, q_newF, q_ifE, q_and, q_or, q_not, blR_bl, q_bl, q_val, q_dAnd, q_dOr, q_dNot, q_chain, q_call, q_callK, q_new, q_newK, q_cut, intR_int, q_partN, q_partS, q_src, q_lm, q_sNil, q_seq, q_ex, q_ret, q_retN, q_if, q_asg, q_par, q_par3, q_sub, q_gNm, q_for, forR_seq, forR_cell, forSeq_nil, q_comp, compR_seq, compR_cell, compSeq_nil, r_addI, r_addT, r_addL, r_subI, r_mulI, r_divI, r_modI, r_eqI, r_neI, r_eqS, r_neS, r_ltI, r_leI, r_gtI, r_geI, r_int, r_intB, r_abs, r_max, r_min, r_divmod, r_lenL, r_lenT, r_lenF, q_rng1, q_setAt, r_cutL, r_cutF, r_cutT, r_isN, r_isI, noX_ok, q_gTp2, q_gTp3, q_gTq2, q_gTq3, q_gSb, r_ixT, r_ixL, r_ixF, srcT, srcL, srcF, tr_bl, tr_int, wipeE, List.set_cons_zero, List.set_cons_succ, List.getElem?_cons_zero, List.getElem?_cons_succ, List.length_cons, List.length_nil, Nat.reduceAdd, Nat.reduceLeDiff, ↓reduceIte, Bool.false_eq_true, Bool.not_true, Bool.not_false, decide_true, decide_false, q_xnew, q_xnew0, mkX1, mkX2, pick0, pickA, pickK_some, pickDf, pickD_some, q_newSel, q_callSel, tryK_nx, tryK_rt, tryK_ex, q_tryX, cauK_ok, cauK_exc, q_caught, strRes_str, ownRes_bl, q_sm, strK_str, q_2F, q_NF, q_raise, excK_xv, q_rng2, at0, at1, at2, at3, at4, at5, at6, at7, at8, wp_ok, wp_exc, nxQ_nx, nxQ_rt, nxQ_ct, nxQ_bk, nxQ_ex, trQ_nx, trQ_ct, trQ_bk, trQ_rt, trQ_ex, enQ_rt, enQ_nx, enQ_ex, isiS, inS]
theorem set_app {st : Sto} {c d : Cell} : (st ++ [c]).set st.length d = st ++ [d] := by simp
theorem new15 (h : Hs T) : WP (mkIns false 0 15 (callK T (k + 3)) [.int a, .int b, .str s, .str t] st) (fun v s' => v = hsV a b s t ∧ s' = st ++ [.dead] ∧ Ru a b s t) (fun c ks xs _ => (c = 2 ∨ c = 3 ∨ c = 4) ∧ ¬ Ru a b s t) := by
  have hS : ∀ n, startE s15.N.length [.obj n, .int a, .int b, .str s, .str t] = [some (.obj n), some (.int a), some (.int b), some (.str s), some (.str t)] := fun _ => rfl
  have hm : (st ++ [.ins 0 [] []])[st.length]? = some (.ins 0 [] []) := app_at
  have x1 := set_at (d := .ins 0 [0] [.int a]) hm
  have x2 := set_at (d := .ins 0 [0, 1] [.int a, .int b]) x1
  have x3 := set_at (d := .ins 0 [0, 1, 2] [.int a, .int b, .str s]) x2
  have key : WP (callK T (k + 3) 15 [.obj st.length, .int a, .int b, .str s, .str t] (st ++ [.ins 0 [] []])) (fun v s' => v = .non ∧ s' = st ++ [.ins 0 [0, 1, 2, 3] [.int a, .int b, .str s, .str t]] ∧ Ru a b s t) (fun c ks xs _ => (c = 2 ∨ c = 3 ∨ c = 4) ∧ ¬ Ru a b s t) := by
    refine wp_go h.t15 rfl rfl ?_
    rw [hS]
    by_cases g0 : 1 ≤ a ∧ a ≤ 3
    · have e0 : (decide (1 ≤ a) && decide (a ≤ 3)) = true := by simp [g0]
      by_cases g1 : 1 ≤ b ∧ b ≤ 9
      · have e1 : (decide (1 ≤ b) && decide (b ≤ 9)) = true := by simp [g1]
        by_cases g2 : s ∈ wds
        · by_cases g3 : t ∈ wds
          · simp only [b15, bnd_ok, bnd_exc, bnd_bad, at_ok, at_exc, at_bad, nxt_nx, nxt_rt, nxt_ex, nxt_bk, nxt_ct, nxt_bad, trn_nx, trn_ct, trn_bk, trn_rt, trn_ex, endF_rt, endF_nx, endF_ex, optR_some, getV_some, q_V, q_K, q_1, q_2, q_nil, q_cons, q_N, q_tup, q_lst, q_newT, q_newF, q_ifE, q_and, q_or, q_not, blR_bl, q_bl, q_val, q_dAnd, q_dOr, q_dNot, q_chain, q_call, q_callK, q_new, q_newK, q_cut, intR_int, q_partN, q_partS, q_src, q_lm, q_sNil, q_seq, q_ex, q_ret, q_retN, q_if, q_asg, q_par, q_par3, q_sub, q_gNm, q_for, forR_seq, forR_cell, forSeq_nil, q_comp, compR_seq, compR_cell, compSeq_nil, r_addI, r_addT, r_addL, r_subI, r_mulI, r_divI, r_modI, r_eqI, r_neI, r_eqS, r_neS, r_ltI, r_leI, r_gtI, r_geI, r_int, r_intB, r_abs, r_max, r_min, r_divmod, r_lenL, r_lenT, r_lenF, q_rng1, q_setAt, r_cutL, r_cutF, r_cutT, r_isN, r_isI, noX_ok, q_gTp2, q_gTp3, q_gTq2, q_gTq3, q_gSb, r_ixT, r_ixL, r_ixF, srcT, srcL, srcF, tr_bl, tr_int, wipeE, List.set_cons_zero, List.set_cons_succ, List.getElem?_cons_zero, List.getElem?_cons_succ, List.length_cons, List.length_nil, Nat.reduceAdd, Nat.reduceLeDiff, ↓reduceIte, Bool.false_eq_true, Bool.not_true, Bool.not_false, decide_true, decide_false, q_xnew, q_xnew0, mkX1, mkX2, pick0, pickA, pickK_some, pickDf, pickD_some, q_newSel, q_callSel, tryK_nx, tryK_rt, tryK_ex, q_tryX, cauK_ok, cauK_exc, q_caught, strRes_str, ownRes_bl, q_sm, strK_str, q_2F, q_NF, q_raise, excK_xv, q_rng2, at0, at1, at2, at3, at4, at5, at6, at7, at8, wp_ok, wp_exc, nxQ_nx, nxQ_rt, nxQ_ct, nxQ_bk, nxQ_ex, trQ_nx, trQ_ct, trQ_bk, trQ_rt, trQ_ex, enQ_rt, enQ_nx, enQ_ex, btw1 h, word2 h, e0, e1, decide_eq_true g2, decide_eq_true g3, setR_ok (b := gm.b) (k := 0) (v := .int a) hm rfl rfl (by decide), setR_ok (b := gm.b) (k := 1) (v := .int b) x1 rfl rfl (by decide),
              setR_ok (b := gm.b) (k := 2) (v := .str s) x2 rfl rfl (by decide), setR_ok (b := gm.b) (k := 3) (v := .str t) x3 rfl rfl (by decide)]
            exact ⟨trivial, by simp, g0, g1, g2, g3⟩
          · simp only [b15, bnd_ok, bnd_exc, bnd_bad, at_ok, at_exc, at_bad, nxt_nx, nxt_rt, nxt_ex, nxt_bk, nxt_ct, nxt_bad, trn_nx, trn_ct, trn_bk, trn_rt, trn_ex, endF_rt, endF_nx, endF_ex, optR_some, getV_some, q_V, q_K, q_1, q_2, q_nil, q_cons, q_N, q_tup, q_lst, q_newT, q_newF, q_ifE, q_and, q_or, q_not, blR_bl, q_bl, q_val, q_dAnd, q_dOr, q_dNot, q_chain, q_call, q_callK, q_new, q_newK, q_cut, intR_int, q_partN, q_partS, q_src, q_lm, q_sNil, q_seq, q_ex, q_ret, q_retN, q_if, q_asg, q_par, q_par3, q_sub, q_gNm, q_for, forR_seq, forR_cell, forSeq_nil, q_comp, compR_seq, compR_cell, compSeq_nil, r_addI, r_addT, r_addL, r_subI, r_mulI, r_divI, r_modI, r_eqI, r_neI, r_eqS, r_neS, r_ltI, r_leI, r_gtI, r_geI, r_int, r_intB, r_abs, r_max, r_min, r_divmod, r_lenL, r_lenT, r_lenF, q_rng1, q_setAt, r_cutL, r_cutF, r_cutT, r_isN, r_isI, noX_ok, q_gTp2, q_gTp3, q_gTq2, q_gTq3, q_gSb, r_ixT, r_ixL, r_ixF, srcT, srcL, srcF, tr_bl, tr_int, wipeE, List.set_cons_zero, List.set_cons_succ, List.getElem?_cons_zero, List.getElem?_cons_succ, List.length_cons, List.length_nil, Nat.reduceAdd, Nat.reduceLeDiff, ↓reduceIte, Bool.false_eq_true, Bool.not_true, Bool.not_false, decide_true, decide_false, q_xnew, q_xnew0, mkX1, mkX2, pick0, pickA, pickK_some, pickDf, pickD_some, q_newSel, q_callSel, tryK_nx, tryK_rt, tryK_ex, q_tryX, cauK_ok, cauK_exc, q_caught, strRes_str, ownRes_bl, q_sm, strK_str, q_2F, q_NF, q_raise, excK_xv, q_rng2, at0, at1, at2, at3, at4, at5, at6, at7, at8, wp_ok, wp_exc, nxQ_nx, nxQ_rt, nxQ_ct, nxQ_bk, nxQ_ex, trQ_nx, trQ_ct, trQ_bk, trQ_rt, trQ_ex, enQ_rt, enQ_nx, enQ_ex, btw1 h, word2 h, e0, e1, decide_eq_true g2, decide_eq_false g3]
            exact ⟨.inr (.inr trivial), fun r => g3 r.t⟩
        · simp only [b15, bnd_ok, bnd_exc, bnd_bad, at_ok, at_exc, at_bad, nxt_nx, nxt_rt, nxt_ex, nxt_bk, nxt_ct, nxt_bad, trn_nx, trn_ct, trn_bk, trn_rt, trn_ex, endF_rt, endF_nx, endF_ex, optR_some, getV_some, q_V, q_K, q_1, q_2, q_nil, q_cons, q_N, q_tup, q_lst, q_newT, q_newF, q_ifE, q_and, q_or, q_not, blR_bl, q_bl, q_val, q_dAnd, q_dOr, q_dNot, q_chain, q_call, q_callK, q_new, q_newK, q_cut, intR_int, q_partN, q_partS, q_src, q_lm, q_sNil, q_seq, q_ex, q_ret, q_retN, q_if, q_asg, q_par, q_par3, q_sub, q_gNm, q_for, forR_seq, forR_cell, forSeq_nil, q_comp, compR_seq, compR_cell, compSeq_nil, r_addI, r_addT, r_addL, r_subI, r_mulI, r_divI, r_modI, r_eqI, r_neI, r_eqS, r_neS, r_ltI, r_leI, r_gtI, r_geI, r_int, r_intB, r_abs, r_max, r_min, r_divmod, r_lenL, r_lenT, r_lenF, q_rng1, q_setAt, r_cutL, r_cutF, r_cutT, r_isN, r_isI, noX_ok, q_gTp2, q_gTp3, q_gTq2, q_gTq3, q_gSb, r_ixT, r_ixL, r_ixF, srcT, srcL, srcF, tr_bl, tr_int, wipeE, List.set_cons_zero, List.set_cons_succ, List.getElem?_cons_zero, List.getElem?_cons_succ, List.length_cons, List.length_nil, Nat.reduceAdd, Nat.reduceLeDiff, ↓reduceIte, Bool.false_eq_true, Bool.not_true, Bool.not_false, decide_true, decide_false, q_xnew, q_xnew0, mkX1, mkX2, pick0, pickA, pickK_some, pickDf, pickD_some, q_newSel, q_callSel, tryK_nx, tryK_rt, tryK_ex, q_tryX, cauK_ok, cauK_exc, q_caught, strRes_str, ownRes_bl, q_sm, strK_str, q_2F, q_NF, q_raise, excK_xv, q_rng2, at0, at1, at2, at3, at4, at5, at6, at7, at8, wp_ok, wp_exc, nxQ_nx, nxQ_rt, nxQ_ct, nxQ_bk, nxQ_ex, trQ_nx, trQ_ct, trQ_bk, trQ_rt, trQ_ex, enQ_rt, enQ_nx, enQ_ex, btw1 h, word2 h, e0, e1, decide_eq_false g2]
          exact ⟨.inr (.inr trivial), fun r => g2 r.s⟩
      · have e1 : (decide (1 ≤ b) && decide (b ≤ 9)) = false := by
          rw [Bool.eq_false_iff]; intro z; simp only [Bool.and_eq_true, decide_eq_true_eq] at z; exact g1 z
        simp only [b15, bnd_ok, bnd_exc, bnd_bad, at_ok, at_exc, at_bad, nxt_nx, nxt_rt, nxt_ex, nxt_bk, nxt_ct, nxt_bad, trn_nx, trn_ct, trn_bk, trn_rt, trn_ex, endF_rt, endF_nx, endF_ex, optR_some, getV_some, q_V, q_K, q_1, q_2, q_nil, q_cons, q_N, q_tup, q_lst, q_newT, q_newF, q_ifE, q_and, q_or, q_not, blR_bl, q_bl, q_val, q_dAnd, q_dOr, q_dNot, q_chain, q_call, q_callK, q_new, q_newK, q_cut, intR_int, q_partN, q_partS, q_src, q_lm, q_sNil, q_seq, q_ex, q_ret, q_retN, q_if, q_asg, q_par, q_par3, q_sub, q_gNm, q_for, forR_seq, forR_cell, forSeq_nil, q_comp, compR_seq, compR_cell, compSeq_nil, r_addI, r_addT, r_addL, r_subI, r_mulI, r_divI, r_modI, r_eqI, r_neI, r_eqS, r_neS, r_ltI, r_leI, r_gtI, r_geI, r_int, r_intB, r_abs, r_max, r_min, r_divmod, r_lenL, r_lenT, r_lenF, q_rng1, q_setAt, r_cutL, r_cutF, r_cutT, r_isN, r_isI, noX_ok, q_gTp2, q_gTp3, q_gTq2, q_gTq3, q_gSb, r_ixT, r_ixL, r_ixF, srcT, srcL, srcF, tr_bl, tr_int, wipeE, List.set_cons_zero, List.set_cons_succ, List.getElem?_cons_zero, List.getElem?_cons_succ, List.length_cons, List.length_nil, Nat.reduceAdd, Nat.reduceLeDiff, ↓reduceIte, Bool.false_eq_true, Bool.not_true, Bool.not_false, decide_true, decide_false, q_xnew, q_xnew0, mkX1, mkX2, pick0, pickA, pickK_some, pickDf, pickD_some, q_newSel, q_callSel, tryK_nx, tryK_rt, tryK_ex, q_tryX, cauK_ok, cauK_exc, q_caught, strRes_str, ownRes_bl, q_sm, strK_str, q_2F, q_NF, q_raise, excK_xv, q_rng2, at0, at1, at2, at3, at4, at5, at6, at7, at8, wp_ok, wp_exc, nxQ_nx, nxQ_rt, nxQ_ct, nxQ_bk, nxQ_ex, trQ_nx, trQ_ct, trQ_bk, trQ_rt, trQ_ex, enQ_rt, enQ_nx, enQ_ex, btw1 h, e0, e1]
        exact ⟨by simp, fun r => g1 r.d⟩
    · have e0 : (decide (1 ≤ a) && decide (a ≤ 3)) = false := by
        rw [Bool.eq_false_iff]; intro z; simp only [Bool.and_eq_true, decide_eq_true_eq] at z; exact g0 z
      simp only [b15, bnd_ok, bnd_exc, bnd_bad, at_ok, at_exc, at_bad, nxt_nx, nxt_rt, nxt_ex, nxt_bk, nxt_ct, nxt_bad, trn_nx, trn_ct, trn_bk, trn_rt, trn_ex, endF_rt, endF_nx, endF_ex, optR_some, getV_some, q_V, q_K, q_1, q_2, q_nil, q_cons, q_N, q_tup, q_lst, q_newT, q_newF, q_ifE, q_and, q_or, q_not, blR_bl, q_bl, q_val, q_dAnd, q_dOr, q_dNot, q_chain, q_call, q_callK, q_new, q_newK, q_cut, intR_int, q_partN, q_partS, q_src, q_lm, q_sNil, q_seq, q_ex, q_ret, q_retN, q_if, q_asg, q_par, q_par3, q_sub, q_gNm, q_for, forR_seq, forR_cell, forSeq_nil, q_comp, compR_seq, compR_cell, compSeq_nil, r_addI, r_addT, r_addL, r_subI, r_mulI, r_divI, r_modI, r_eqI, r_neI, r_eqS, r_neS, r_ltI, r_leI, r_gtI, r_geI, r_int, r_intB, r_abs, r_max, r_min, r_divmod, r_lenL, r_lenT, r_lenF, q_rng1, q_setAt, r_cutL, r_cutF, r_cutT, r_isN, r_isI, noX_ok, q_gTp2, q_gTp3, q_gTq2, q_gTq3, q_gSb, r_ixT, r_ixL, r_ixF, srcT, srcL, srcF, tr_bl, tr_int, wipeE, List.set_cons_zero, List.set_cons_succ, List.getElem?_cons_zero, List.getElem?_cons_succ, List.length_cons, List.length_nil, Nat.reduceAdd, Nat.reduceLeDiff, ↓reduceIte, Bool.false_eq_true, Bool.not_true, Bool.not_false, decide_true, decide_false, q_xnew, q_xnew0, mkX1, mkX2, pick0, pickA, pickK_some, pickDf, pickD_some, q_newSel, q_callSel, tryK_nx, tryK_rt, tryK_ex, q_tryX, cauK_ok, cauK_exc, q_caught, strRes_str, ownRes_bl, q_sm, strK_str, q_2F, q_NF, q_raise, excK_xv, q_rng2, at0, at1, at2, at3, at4, at5, at6, at7, at8, wp_ok, wp_exc, nxQ_nx, nxQ_rt, nxQ_ct, nxQ_bk, nxQ_ex, trQ_nx, trQ_ct, trQ_bk, trQ_rt, trQ_ex, enQ_rt, enQ_nx, enQ_ex, btw1 h, e0]
      exact ⟨by simp, fun r => g0 r.w⟩
  cases e : callK T (k + 3) 15 [.obj st.length, .int a, .int b, .str s, .str t] (st ++ [.ins 0 [] []]) with
  | ok v s' =>
    rw [e] at key
    obtain ⟨rfl, rfl, r⟩ := key
    have : mkIns false 0 15 (callK T (k + 3)) [.int a, .int b, .str s, .str t] st = .ok (hsV a b s t) (st ++ [.dead]) := by
      simp only [mkIns, e, Res.bnd, Bool.false_eq_true, ↓reduceIte, oFrz, app_at, set_app, hsV]
    rw [this]
    exact ⟨rfl, rfl, r⟩
  | exc c ks xs s' =>
    rw [e] at key
    have : mkIns false 0 15 (callK T (k + 3)) [.int a, .int b, .str s, .str t] st = .exc c ks xs s' := by
      simp only [mkIns, e, Res.bnd]
    rw [this]
    exact key
  | bad => rw [e] at key; exact key.elim
theorem strO {F : CallT} : bOwn gm.ownB gm.b 3 bStr F [hsV a b s t] st = strRes (F 18 [hsV a b s t] st) := (rfl)
theorem cmpS {F : CallT} {y : Str} {n : Bool} : cmpO gm.ownB gm.b 2 n F (.str x) (.str y) st = .ok (.bl (if n then !decide (x = y) else decide (x = y))) st := by cases n <;> rfl
theorem eq17 {a' b' : Int} {s' t' : Str} (r : Ru a b s t) (r' : Ru a' b' s' t') : callK T2 (k + 2) 17 [hsV a b s t, hsV a' b' s' t'] st = .ok (.bl (decide (htx a b s t = htx a' b' s' t'))) st := by
  refine callK_iso (fi := ⟨s17.ps, s17.N, b17⟩) (s := []) rfl rfl rfl ?_ rfl
  have hS : startE s17.N.length [hsV a b s t, hsV a' b' s' t'] = [some (hsV a b s t), some (hsV a' b' s' t')] := rfl
  simp only [hS, b17, bnd_ok, bnd_exc, bnd_bad, at_ok, at_exc, at_bad, nxt_nx, nxt_rt, nxt_ex, nxt_bk, nxt_ct, nxt_bad, trn_nx, trn_ct, trn_bk, trn_rt, trn_ex, endF_rt, endF_nx, endF_ex, optR_some, getV_some, q_V, q_K, q_1, q_2, q_nil, q_cons, q_N, q_tup, q_lst, q_newT, q_newF, q_ifE, q_and, q_or, q_not, blR_bl, q_bl, q_val, q_dAnd, q_dOr, q_dNot, q_chain, q_call, q_callK, q_new, q_newK, q_cut, intR_int, q_partN, q_partS, q_src, q_lm, q_sNil, q_seq, q_ex, q_ret, q_retN, q_if, q_asg, q_par, q_par3, q_sub, q_gNm, q_for, forR_seq, forR_cell, forSeq_nil, q_comp, compR_seq, compR_cell, compSeq_nil, r_addI, r_addT, r_addL, r_subI, r_mulI, r_divI, r_modI, r_eqI, r_neI, r_eqS, r_neS, r_ltI, r_leI, r_gtI, r_geI, r_int, r_intB, r_abs, r_max, r_min, r_divmod, r_lenL, r_lenT, r_lenF, q_rng1, q_setAt, r_cutL, r_cutF, r_cutT, r_isN, r_isI, noX_ok, q_gTp2, q_gTp3, q_gTq2, q_gTq3, q_gSb, r_ixT, r_ixL, r_ixF, srcT, srcL, srcF, tr_bl, tr_int, wipeE, List.set_cons_zero, List.set_cons_succ, List.getElem?_cons_zero, List.getElem?_cons_succ, List.length_cons, List.length_nil, Nat.reduceAdd, Nat.reduceLeDiff, ↓reduceIte, Bool.false_eq_true, Bool.not_true, Bool.not_false, decide_true, decide_false, q_xnew, q_xnew0, mkX1, mkX2, pick0, pickA, pickK_some, pickDf, pickD_some, q_newSel, q_callSel, tryK_nx, tryK_rt, tryK_ex, q_tryX, cauK_ok, cauK_exc, q_caught, strRes_str, ownRes_bl, q_sm, strK_str, q_2F, q_NF, q_raise, excK_xv, q_rng2, at0, at1, at2, at3, at4, at5, at6, at7, at8, wp_ok, wp_exc, nxQ_nx, nxQ_rt, nxQ_ct, nxQ_bk, nxQ_ex, trQ_nx, trQ_ct, trQ_bk, trQ_rt, trQ_ex, enQ_rt, enQ_nx, enQ_ex, isiH, strO, str18 r.nw r.nd (wd_len r.s) (wd_len r.t), str18 r'.nw r'.nd (wd_len r'.s) (wd_len r'.t), cmpS]
theorem newV {a b c d : D PV} {r : LEnv} {F : CallT} : dNewV false gm.ini gm.sgf (dV 0) [a, b, c, d] [] [] F (some (.cls 0) :: r) st = (dArgs [a, b, c, d] F (some (.cls 0) :: r) st).bndK fun xs s1 => newSel false 0 15 [.a 0, .a 1, .a 2, .a 3] F xs s1 := by kernel_rfl
theorem hit1 : gm.hit 1 2 = true ∧ gm.hit 1 3 = true ∧ gm.hit 1 4 = true := ⟨by kernel_rfl, by kernel_rfl, by kernel_rfl⟩
theorem findR {y : Str} {st : Sto} : oFind (.str x) (.str y) st = .ok (.int (Txt.find x y)) st := (rfl)
theorem find3 {w : Int} (h : 1 ≤ w ∧ w ≤ 9) : Txt.find ⟨#[48, 49, 50, 51, 52, 53, 54, 55, 56, 57]⟩ (toString w : Str) = w := by
  have : w = 1 ∨ w = 2 ∨ w = 3 ∨ w = 4 ∨ w = 5 ∨ w = 6 ∨ w = 7 ∨ w = 8 ∨ w = 9 := by omega
  rcases this with rfl | rfl | rfl | rfl | rfl | rfl | rfl | rfl | rfl <;> decide +kernel
theorem read16 (P : Pl 100000 x) : WP (callK T2 (k + 5) 16 [.cls 0, .str x] st) (fun v s' => s' = st ∧ ∃ w d s t, Ru w d s t ∧ x = htx w d s t ∧ v = hsV w d s t) (fun c ks xs s' => s' = st ∧ c = 5 ∧ ks = [4] ∧ xs = [.str x] ∧ ¬ IsH x) := by
  refine wp_iso (fi := ⟨s16.ps, s16.N, b16⟩) rfl rfl rfl ?_
  have hS : startE s16.N.length [.cls 0, .str x] = [some (.cls 0), some (.str x), none, none] := rfl
  have hsp : ∀ z, oSplit false (.str x) (.str ⟨#[32]⟩) z = .ok (.lv ((Txt.split x ⟨#[32]⟩).map .str)) z := fun z => splitR P.len
  by_cases h9 : (Txt.split x ⟨#[32]⟩).length = 9
  · obtain ⟨w0, w1, w2, w3, w4, w5, w6, w7, w8, e9⟩ := nine h9
    generalize ha : Txt.find ⟨#[48, 49, 50, 51, 52, 53, 54, 55, 56, 57]⟩ w2 = a
    generalize hb : Txt.find ⟨#[48, 49, 50, 51, 52, 53, 54, 55, 56, 57]⟩ w4 = b
    have n9 : ((9 : Nat) : Int) = 9 := rfl
    have hN := new15 (k := 0) (a := a) (b := b) (s := w6) (t := w8) (st := []) hs_N
    have isH : ∀ w d s t, Ru w d s t → x = htx w d s t → a = w ∧ b = d ∧ w6 = s ∧ w8 = t := fun w d s t r e => by
      rw [e, htx_split r] at e9
      simp only [hws, List.cons.injEq, and_true] at e9
      obtain ⟨rfl, rfl, rfl, rfl, rfl, rfl, rfl, rfl, rfl⟩ := e9
      exact ⟨by rw [← ha]; exact find3 ⟨r.w.1, by have := r.w.2; omega⟩, by rw [← hb]; exact find3 r.d, rfl, rfl⟩
    cases e : mkIns false 0 15 (callK TN2 3) [.int a, .int b, .str w6, .str w8] [] with
    | ok v s' =>
      rw [show (0 + 3) = 3 from rfl, e] at hN
      obtain ⟨rfl, rfl, r⟩ := hN
      by_cases hx : htx a b w6 w8 = x
      · simp only [hS, b16, bnd_ok, bnd_exc, bnd_bad, at_ok, at_exc, at_bad, nxt_nx, nxt_rt, nxt_ex, nxt_bk, nxt_ct, nxt_bad, trn_nx, trn_ct, trn_bk, trn_rt, trn_ex, endF_rt, endF_nx, endF_ex, optR_some, getV_some, q_V, q_K, q_1, q_2, q_nil, q_cons, q_N, q_tup, q_lst, q_newT, q_newF, q_ifE, q_and, q_or, q_not, blR_bl, q_bl, q_val, q_dAnd, q_dOr, q_dNot, q_chain, q_call, q_callK, q_new, q_newK, q_cut, intR_int, q_partN, q_partS, q_src, q_lm, q_sNil, q_seq, q_ex, q_ret, q_retN, q_if, q_asg, q_par, q_par3, q_sub, q_gNm, q_for, forR_seq, forR_cell, forSeq_nil, q_comp, compR_seq, compR_cell, compSeq_nil, r_addI, r_addT, r_addL, r_subI, r_mulI, r_divI, r_modI, r_eqI, r_neI, r_eqS, r_neS, r_ltI, r_leI, r_gtI, r_geI, r_int, r_intB, r_abs, r_max, r_min, r_divmod, r_lenL, r_lenT, r_lenF, q_rng1, q_setAt, r_cutL, r_cutF, r_cutT, r_isN, r_isI, noX_ok, q_gTp2, q_gTp3, q_gTq2, q_gTq3, q_gSb, r_ixT, r_ixL, r_ixF, srcT, srcL, srcF, tr_bl, tr_int, wipeE, List.set_cons_zero, List.set_cons_succ, List.getElem?_cons_zero, List.getElem?_cons_succ, List.length_cons, List.length_nil, Nat.reduceAdd, Nat.reduceLeDiff, ↓reduceIte, Bool.false_eq_true, Bool.not_true, Bool.not_false, decide_true, decide_false, q_xnew, q_xnew0, mkX1, mkX2, pick0, pickA, pickK_some, pickDf, pickD_some, q_newSel, q_callSel, tryK_nx, tryK_rt, tryK_ex, q_tryX, cauK_ok, cauK_exc, q_caught, strRes_str, ownRes_bl, q_sm, strK_str, q_2F, q_NF, q_raise, excK_xv, q_rng2, at0, at1, at2, at3, at4, at5, at6, at7, at8, wp_ok, wp_exc, nxQ_nx, nxQ_rt, nxQ_ct, nxQ_bk, nxQ_ex, trQ_nx, trQ_ct, trQ_bk, trQ_rt, trQ_ex, enQ_rt, enQ_nx, enQ_ex, isiS, hsp, e9, List.map_cons, List.map_nil, n9, newV, findR, ha, hb, e, strO, str18 r.nw r.nd (wd_len r.s) (wd_len r.t), cmpS, hx]
        exact ⟨rfl, trivial, a, b, w6, w8, r, hx.symm, rfl⟩
      · simp only [hS, b16, bnd_ok, bnd_exc, bnd_bad, at_ok, at_exc, at_bad, nxt_nx, nxt_rt, nxt_ex, nxt_bk, nxt_ct, nxt_bad, trn_nx, trn_ct, trn_bk, trn_rt, trn_ex, endF_rt, endF_nx, endF_ex, optR_some, getV_some, q_V, q_K, q_1, q_2, q_nil, q_cons, q_N, q_tup, q_lst, q_newT, q_newF, q_ifE, q_and, q_or, q_not, blR_bl, q_bl, q_val, q_dAnd, q_dOr, q_dNot, q_chain, q_call, q_callK, q_new, q_newK, q_cut, intR_int, q_partN, q_partS, q_src, q_lm, q_sNil, q_seq, q_ex, q_ret, q_retN, q_if, q_asg, q_par, q_par3, q_sub, q_gNm, q_for, forR_seq, forR_cell, forSeq_nil, q_comp, compR_seq, compR_cell, compSeq_nil, r_addI, r_addT, r_addL, r_subI, r_mulI, r_divI, r_modI, r_eqI, r_neI, r_eqS, r_neS, r_ltI, r_leI, r_gtI, r_geI, r_int, r_intB, r_abs, r_max, r_min, r_divmod, r_lenL, r_lenT, r_lenF, q_rng1, q_setAt, r_cutL, r_cutF, r_cutT, r_isN, r_isI, noX_ok, q_gTp2, q_gTp3, q_gTq2, q_gTq3, q_gSb, r_ixT, r_ixL, r_ixF, srcT, srcL, srcF, tr_bl, tr_int, wipeE, List.set_cons_zero, List.set_cons_succ, List.getElem?_cons_zero, List.getElem?_cons_succ, List.length_cons, List.length_nil, Nat.reduceAdd, Nat.reduceLeDiff, ↓reduceIte, Bool.false_eq_true, Bool.not_true, Bool.not_false, decide_true, decide_false, q_xnew, q_xnew0, mkX1, mkX2, pick0, pickA, pickK_some, pickDf, pickD_some, q_newSel, q_callSel, tryK_nx, tryK_rt, tryK_ex, q_tryX, cauK_ok, cauK_exc, q_caught, strRes_str, ownRes_bl, q_sm, strK_str, q_2F, q_NF, q_raise, excK_xv, q_rng2, at0, at1, at2, at3, at4, at5, at6, at7, at8, wp_ok, wp_exc, nxQ_nx, nxQ_rt, nxQ_ct, nxQ_bk, nxQ_ex, trQ_nx, trQ_ct, trQ_bk, trQ_rt, trQ_ex, enQ_rt, enQ_nx, enQ_ex, isiS, hsp, e9, List.map_cons, List.map_nil, n9, newV, findR, ha, hb, e, strO, str18 r.nw r.nd (wd_len r.s) (wd_len r.t), cmpS, hx]
        refine ⟨rfl, trivial, trivial, trivial, trivial, ?_⟩
        rintro ⟨w, d, s, t, r', e'⟩
        obtain ⟨rfl, rfl, rfl, rfl⟩ := isH w d s t r' e'
        exact hx e'.symm
    | exc c ks xs s' =>
      rw [show (0 + 3) = 3 from rfl, e] at hN
      obtain ⟨hc, nr⟩ := hN
      have hh : gm.hit 1 c = true := by rcases hc with rfl | rfl | rfl <;> kernel_rfl
      simp only [hS, b16, bnd_ok, bnd_exc, bnd_bad, at_ok, at_exc, at_bad, nxt_nx, nxt_rt, nxt_ex, nxt_bk, nxt_ct, nxt_bad, trn_nx, trn_ct, trn_bk, trn_rt, trn_ex, endF_rt, endF_nx, endF_ex, optR_some, getV_some, q_V, q_K, q_1, q_2, q_nil, q_cons, q_N, q_tup, q_lst, q_newT, q_newF, q_ifE, q_and, q_or, q_not, blR_bl, q_bl, q_val, q_dAnd, q_dOr, q_dNot, q_chain, q_call, q_callK, q_new, q_newK, q_cut, intR_int, q_partN, q_partS, q_src, q_lm, q_sNil, q_seq, q_ex, q_ret, q_retN, q_if, q_asg, q_par, q_par3, q_sub, q_gNm, q_for, forR_seq, forR_cell, forSeq_nil, q_comp, compR_seq, compR_cell, compSeq_nil, r_addI, r_addT, r_addL, r_subI, r_mulI, r_divI, r_modI, r_eqI, r_neI, r_eqS, r_neS, r_ltI, r_leI, r_gtI, r_geI, r_int, r_intB, r_abs, r_max, r_min, r_divmod, r_lenL, r_lenT, r_lenF, q_rng1, q_setAt, r_cutL, r_cutF, r_cutT, r_isN, r_isI, noX_ok, q_gTp2, q_gTp3, q_gTq2, q_gTq3, q_gSb, r_ixT, r_ixL, r_ixF, srcT, srcL, srcF, tr_bl, tr_int, wipeE, List.set_cons_zero, List.set_cons_succ, List.getElem?_cons_zero, List.getElem?_cons_succ, List.length_cons, List.length_nil, Nat.reduceAdd, Nat.reduceLeDiff, ↓reduceIte, Bool.false_eq_true, Bool.not_true, Bool.not_false, decide_true, decide_false, q_xnew, q_xnew0, mkX1, mkX2, pick0, pickA, pickK_some, pickDf, pickD_some, q_newSel, q_callSel, tryK_nx, tryK_rt, tryK_ex, q_tryX, cauK_ok, cauK_exc, q_caught, strRes_str, ownRes_bl, q_sm, strK_str, q_2F, q_NF, q_raise, excK_xv, q_rng2, at0, at1, at2, at3, at4, at5, at6, at7, at8, wp_ok, wp_exc, nxQ_nx, nxQ_rt, nxQ_ct, nxQ_bk, nxQ_ex, trQ_nx, trQ_ct, trQ_bk, trQ_rt, trQ_ex, enQ_rt, enQ_nx, enQ_ex, isiS, hsp, e9, List.map_cons, List.map_nil, n9, newV, findR, ha, hb, e, hh]
      refine ⟨rfl, trivial, trivial, trivial, trivial, ?_⟩
      rintro ⟨w, d, s, t, r', e'⟩
      obtain ⟨rfl, rfl, rfl, rfl⟩ := isH w d s t r' e'
      exact nr r'
    | bad => rw [show (0 + 3) = 3 from rfl, e] at hN; exact hN.elim
  · have e : decide (((((Txt.split x ⟨#[32]⟩).map PV.str).length : Nat) : Int) = 9) = false := by
      have e : decide (((Txt.split x ⟨#[32]⟩).map PV.str).length = 9) = false := by simpa using h9
      rw [← e]; exact dec_len (m := 9)
    simp only [hS, b16, bnd_ok, bnd_exc, bnd_bad, at_ok, at_exc, at_bad, nxt_nx, nxt_rt, nxt_ex, nxt_bk, nxt_ct, nxt_bad, trn_nx, trn_ct, trn_bk, trn_rt, trn_ex, endF_rt, endF_nx, endF_ex, optR_some, getV_some, q_V, q_K, q_1, q_2, q_nil, q_cons, q_N, q_tup, q_lst, q_newT, q_newF, q_ifE, q_and, q_or, q_not, blR_bl, q_bl, q_val, q_dAnd, q_dOr, q_dNot, q_chain, q_call, q_callK, q_new, q_newK, q_cut, intR_int, q_partN, q_partS, q_src, q_lm, q_sNil, q_seq, q_ex, q_ret, q_retN, q_if, q_asg, q_par, q_par3, q_sub, q_gNm, q_for, forR_seq, forR_cell, forSeq_nil, q_comp, compR_seq, compR_cell, compSeq_nil, r_addI, r_addT, r_addL, r_subI, r_mulI, r_divI, r_modI, r_eqI, r_neI, r_eqS, r_neS, r_ltI, r_leI, r_gtI, r_geI, r_int, r_intB, r_abs, r_max, r_min, r_divmod, r_lenL, r_lenT, r_lenF, q_rng1, q_setAt, r_cutL, r_cutF, r_cutT, r_isN, r_isI, noX_ok, q_gTp2, q_gTp3, q_gTq2, q_gTq3, q_gSb, r_ixT, r_ixL, r_ixF, srcT, srcL, srcF, tr_bl, tr_int, wipeE, List.set_cons_zero, List.set_cons_succ, List.getElem?_cons_zero, List.getElem?_cons_succ, List.length_cons, List.length_nil, Nat.reduceAdd, Nat.reduceLeDiff, ↓reduceIte, Bool.false_eq_true, Bool.not_true, Bool.not_false, decide_true, decide_false, q_xnew, q_xnew0, mkX1, mkX2, pick0, pickA, pickK_some, pickDf, pickD_some, q_newSel, q_callSel, tryK_nx, tryK_rt, tryK_ex, q_tryX, cauK_ok, cauK_exc, q_caught, strRes_str, ownRes_bl, q_sm, strK_str, q_2F, q_NF, q_raise, excK_xv, q_rng2, at0, at1, at2, at3, at4, at5, at6, at7, at8, wp_ok, wp_exc, nxQ_nx, nxQ_rt, nxQ_ct, nxQ_bk, nxQ_ex, trQ_nx, trQ_ct, trQ_bk, trQ_rt, trQ_ex, enQ_rt, enQ_nx, enQ_ex, isiS, hsp, e]
    refine ⟨rfl, trivial, trivial, trivial, trivial, ?_⟩
    rintro ⟨w, d, s, t, r, rfl⟩
    rw [htx_split r] at h9
    exact h9 rfl
end
end Lw
set_option maxRecDepth 100000
set_option maxHeartbeats 0
namespace Lw
open PySem OL TL
section
variable {k : Nat} {x : Str} {st : Sto} {F : CallT}
/-! ### the error told -/
theorem isiX {c : Nat} {ks : List Nat} {xs : List PV} (h : gm.xi 5 false c = some (c == 1 || c == 5)) : bIsi gm.isa gm.xi [.xv 5 ks xs, .cls c] st = .ok (.bl (c == 1 || c == 5)) st := by
  simp only [bIsi, tyOf, isiP, h]
theorem xi5 : ∀ c ∈ [1, 2, 3, 4, 5, 6, 7, 8, 9, 10, 11, 12], gm.xi 5 false c = some (c == 1 || c == 5) := by decide +kernel
theorem cnt5 : oCount (.lv [.bl false, .bl false, .bl false, .bl true, .bl false, .bl false, .bl false, .bl false, .bl false]) (.bl true) st = .ok (.int 1) st := (rfl)
theorem idx5 : oIndex (.lv [.bl false, .bl false, .bl false, .bl true, .bl false, .bl false, .bl false, .bl false, .bl false]) (.bl true) st = .ok (.int 3) st := (rfl)
theorem ne5 : oNe (.lv [.bl true, .bl false, .bl false]) (.lv [.bl true, .bl false, .bl false]) st = .ok (.bl false) st := by kernel_rfl
theorem in5 : oIn (.int 3) (.lv [.int 5, .int 6]) st = .ok (.bl false) st := (rfl)
theorem attE {m : PV} {r : LEnv} : dAttr gm.b 4 (dV 0) F (some (.xv 5 [4] [m]) :: r) st = .ok m st := (rfl)
theorem ownR : bOwn gm.ownB gm.b 4 bRepr F [.str x] st = bRepr [.str x] st := (rfl)
theorem lOf {xs : List PV} : listOf st (.lv xs) = some xs := (rfl)
theorem err8 (P : Pl 100000 x) : callK TH2 4 8 [.xv 5 [4] [.str x]] [] = .ok (.lv [.str sText, .str (reprText x)]) [] := by
  refine callK_iso (fi := ⟨s8.ps, s8.N, h8⟩) (s := []) rfl rfl rfl ?_ rfl
  have hS : startE s8.N.length [.xv 5 [4] [.str x]] = [some (.xv 5 [4] [.str x]), none, none, none, none] := rfl
  have hr : ∀ z, bRepr [.str x] z = .ok (.str (reprText x)) z := fun z => pl_repr P (Nat.le_refl _)
  have i1 := xi5 1 (by decide)
  have i2 := xi5 2 (by decide)
  have i3 := xi5 3 (by decide)
  have i4 := xi5 4 (by decide)
  have i5 := xi5 5 (by decide)
  have i6 := xi5 6 (by decide)
  have i7 := xi5 7 (by decide)
  have i8 := xi5 8 (by decide)
  have i9 := xi5 9 (by decide)
  have i10 := xi5 10 (by decide)
  have i11 := xi5 11 (by decide)
  have i12 := xi5 12 (by decide)
  simp only [hS, h8, bnd_ok, bnd_exc, bnd_bad, at_ok, at_exc, at_bad, nxt_nx, nxt_rt, nxt_ex, nxt_bk, nxt_ct, nxt_bad, trn_nx, trn_ct, trn_bk, trn_rt, trn_ex, endF_rt, endF_nx, endF_ex, optR_some, getV_some, q_V, q_K, q_1, q_2, q_nil, q_cons, q_N, q_tup, q_lst, q_newT, q_newF, q_ifE, q_and, q_or, q_not, blR_bl, q_bl, q_val, q_dAnd, q_dOr, q_dNot, q_chain, q_call, q_callK, q_new, q_newK, q_cut, intR_int, q_partN, q_partS, q_src, q_lm, q_sNil, q_seq, q_ex, q_ret, q_retN, q_if, q_asg, q_par, q_par3, q_sub, q_gNm, q_for, forR_seq, forR_cell, forSeq_nil, q_comp, compR_seq, compR_cell, compSeq_nil, r_addI, r_addT, r_addL, r_subI, r_mulI, r_divI, r_modI, r_eqI, r_neI, r_eqS, r_neS, r_ltI, r_leI, r_gtI, r_geI, r_int, r_intB, r_abs, r_max, r_min, r_divmod, r_lenL, r_lenT, r_lenF, q_rng1, q_setAt, r_cutL, r_cutF, r_cutT, r_isN, r_isI, noX_ok, q_gTp2, q_gTp3, q_gTq2, q_gTq3, q_gSb, r_ixT, r_ixL, r_ixF, srcT, srcL, srcF, tr_bl, tr_int, wipeE, List.set_cons_zero, List.set_cons_succ, List.getElem?_cons_zero, List.getElem?_cons_succ, List.length_cons, List.length_nil, Nat.reduceAdd, Nat.reduceLeDiff, ↓reduceIte, Bool.false_eq_true, Bool.not_true, Bool.not_false, decide_true, decide_false, q_xnew, q_xnew0, mkX1, mkX2, pick0, pickA, pickK_some, pickDf, pickD_some, q_newSel, q_callSel, tryK_nx, tryK_rt, tryK_ex, q_tryX, cauK_ok, cauK_exc, q_caught, strRes_str, ownRes_bl, q_sm, strK_str, q_2F, q_NF, q_raise, excK_xv, q_rng2, at0, at1, at2, at3, at4, at5, at6, at7, at8, wp_ok, wp_exc, nxQ_nx, nxQ_rt, nxQ_ct, nxQ_bk, nxQ_ex, trQ_nx, trQ_ct, trQ_bk, trQ_rt, trQ_ex, enQ_rt, enQ_nx, enQ_ex, isiX i1, isiX i2, isiX i3, isiX i4, isiX i5, isiX i6, isiX i7, isiX i8, isiX i9, isiX i10, isiX i11, isiX i12, Nat.reduceBEq, Bool.or_self, Bool.true_or, Bool.or_true, Bool.false_or, List.cons_append, List.nil_append, lOf, cnt5, idx5,
    show decide ((1 : Int) = 1) = true from rfl, show decide ((3 : Int) < 7) = true from rfl, show decide ((3 : Int) = 7) = false from rfl, show decide ((3 : Int) = 8) = false from rfl, ne5, in5, attE, ownR, hr, sText]
/-! ### a line read -/
theorem metP {r : LEnv} : dMethK gm.b gm.cm gm.sgf 1 (dK (.cls 0)) [dV 0] [] [] F (some (.str x) :: r) st = F 16 [.cls 0, .str x] st := by kernel_rfl
theorem metK {r : LEnv} : dMethK gm.b gm.cm gm.sgf 1 (dK (.cls 0)) [] [dV 0] [⟨#[116, 101, 120, 116]⟩] F (some (.str x) :: r) st = F 16 [.cls 0, .str x] st := by kernel_rfl
theorem cmpH {a b a' b' : Int} {s t s' t' : Str} : cmpO gm.ownB gm.b 2 false F (hsV a b s t) (hsV a' b' s' t') st = ownRes false (F 17 [hsV a b s t, hsV a' b' s' t'] st) := (rfl)
theorem attW {a b : Int} {s t : Str} {x0 x1 x2 : Option PV} : dAttr gm.b 0 (dV 3) F [x0, x1, x2, some (hsV a b s t)] st = .ok (.int a) st := (rfl)
theorem intD {w : Int} (h : 1 ≤ w ∧ w ≤ 9) : bInt [.str (toString w)] st = .ok (.int w) st := by
  have : w = 1 ∨ w = 2 ∨ w = 3 ∨ w = 4 ∨ w = 5 ∨ w = 6 ∨ w = 7 ∨ w = 8 ∨ w = 9 := by omega
  rcases this with rfl | rfl | rfl | rfl | rfl | rfl | rfl | rfl | rfl <;> kernel_rfl
theorem neSame {a b : Str} (ha : PyData.strOk a = true) (hb : PyData.strOk b = true) : oNe (.lv [.str a, .str b]) (.lv [.str a, .str b]) st = .ok (.bl false) st := by
  have := eq_strs (st := st) (xs := [a, b]) (ys := [a, b]) (by simp [ha, hb]) (by simp [ha, hb])
  simp only [List.map_cons, List.map_nil, decide_true] at this
  simp only [oNe, this, Bool.not_true]
theorem hitA : List.contains [1, 2, 3, 4, 5, 6, 7, 8, 9, 10, 11, 12] 5 = true := rfl
theorem reads12 (P : Pl 100000 x) : callK T2 (k + 6) 12 [.str x] st = .ok (.bl true) st := by
  have hS : startE s12.N.length [.str x] = [some (.str x), none, none, none] := rfl
  have hr : ∀ z, bRepr [.str x] z = .ok (.str (reprText x)) z := fun z => pl_repr P (Nat.le_refl _)
  have hsp : ∀ z, oSplit false (.str x) (.str ⟨#[32]⟩) z = .ok (.lv ((Txt.split x ⟨#[32]⟩).map .str)) z := fun z => splitR P.len
  have ro := repr_ok P
  obtain ⟨b, hd, hb⟩ := due10 (k := k + 4) (st := []) P
  have hR := read16 (k := k) (st := []) P
  cases e : callK T2 (k + 5) 16 [.cls 0, .str x] [] with
  | ok v s' =>
    rw [e] at hR
    obtain ⟨rfl, w, d, s, t, r, rfl, rfl⟩ := hR
    have hb1 : b = true := hb.mpr ⟨w, d, s, t, r, rfl⟩
    subst hb1
    have hN := new15 (k := k + 2) (a := w) (b := d) (s := s) (t := t) (st := []) hs_T
    obtain ⟨v, s', eN, rfl, rfl, _⟩ : ∃ v s', mkIns false 0 15 (callK T2 (k + 5)) [.int w, .int d, .str s, .str t] [] = .ok v s' ∧ v = hsV w d s t ∧ s' = [.dead] ∧ Ru w d s t := by
      cases e2 : mkIns false 0 15 (callK T2 (k + 5)) [.int w, .int d, .str s, .str t] [] with
      | ok v s' => rw [e2] at hN; exact ⟨v, s', rfl, hN.1, hN.2.1, r⟩
      | exc c ks xs s' => rw [e2] at hN; exact absurd r hN.2
      | bad => rw [e2] at hN; exact hN.elim
    have eq : ∀ z, callK T2 (k + 5) 17 [hsV w d s t, hsV w d s t] z = .ok (.bl true) z := fun z => by
      rw [eq17 (k := k + 3) r r]; simp
    have sp := htx_split r
    refine callK_iso (fi := ⟨s12.ps, s12.N, b12⟩) (s := [.dead]) rfl rfl rfl ?_ rfl
    simp only [hS, b12, bnd_ok, bnd_exc, bnd_bad, at_ok, at_exc, at_bad, nxt_nx, nxt_rt, nxt_ex, nxt_bk, nxt_ct, nxt_bad, trn_nx, trn_ct, trn_bk, trn_rt, trn_ex, endF_rt, endF_nx, endF_ex, optR_some, getV_some, q_V, q_K, q_1, q_2, q_nil, q_cons, q_N, q_tup, q_lst, q_newT, q_newF, q_ifE, q_and, q_or, q_not, blR_bl, q_bl, q_val, q_dAnd, q_dOr, q_dNot, q_chain, q_call, q_callK, q_new, q_newK, q_cut, intR_int, q_partN, q_partS, q_src, q_lm, q_sNil, q_seq, q_ex, q_ret, q_retN, q_if, q_asg, q_par, q_par3, q_sub, q_gNm, q_for, forR_seq, forR_cell, forSeq_nil, q_comp, compR_seq, compR_cell, compSeq_nil, r_addI, r_addT, r_addL, r_subI, r_mulI, r_divI, r_modI, r_eqI, r_neI, r_eqS, r_neS, r_ltI, r_leI, r_gtI, r_geI, r_int, r_intB, r_abs, r_max, r_min, r_divmod, r_lenL, r_lenT, r_lenF, q_rng1, q_setAt, r_cutL, r_cutF, r_cutT, r_isN, r_isI, noX_ok, q_gTp2, q_gTp3, q_gTq2, q_gTq3, q_gSb, r_ixT, r_ixL, r_ixF, srcT, srcL, srcF, tr_bl, tr_int, wipeE, List.set_cons_zero, List.set_cons_succ, List.getElem?_cons_zero, List.getElem?_cons_succ, List.length_cons, List.length_nil, Nat.reduceAdd, Nat.reduceLeDiff, ↓reduceIte, Bool.false_eq_true, Bool.not_true, Bool.not_false, decide_true, decide_false, q_xnew, q_xnew0, mkX1, mkX2, pick0, pickA, pickK_some, pickDf, pickD_some, q_newSel, q_callSel, tryK_nx, tryK_rt, tryK_ex, q_tryX, cauK_ok, cauK_exc, q_caught, strRes_str, ownRes_bl, q_sm, strK_str, q_2F, q_NF, q_raise, excK_xv, q_rng2, at0, at1, at2, at3, at4, at5, at6, at7, at8, wp_ok, wp_exc, nxQ_nx, nxQ_rt, nxQ_ct, nxQ_bk, nxQ_ex, trQ_nx, trQ_ct, trQ_bk, trQ_rt, trQ_ex, enQ_rt, enQ_nx, enQ_ex, hd, e, metP, metK, strO, str18 r.nw r.nd (wd_len r.s) (wd_len r.t), List.replicate, hr, sTold, neSame (show PyData.strOk ⟨#[116, 111, 108, 100]⟩ = true by decide +kernel) ro, hsp, sp, hws, List.map_cons, List.map_nil,
      intD (show 1 ≤ w ∧ w ≤ 9 from ⟨r.w.1, by have := r.w.2; omega⟩), intD r.d, eN, cmpH, eq, attW, isiI, show (true != false) = true from rfl]
  | exc c ks xs s' =>
    rw [e] at hR
    obtain ⟨rfl, rfl, rfl, rfl, nh⟩ := hR
    have hb1 : b = false := by cases b with
      | false => rfl
      | true => exact absurd (hb.mp rfl) nh
    subst hb1
    refine callK_iso (fi := ⟨s12.ps, s12.N, b12⟩) (s := []) rfl rfl rfl ?_ rfl
    simp only [hS, b12, bnd_ok, bnd_exc, bnd_bad, at_ok, at_exc, at_bad, nxt_nx, nxt_rt, nxt_ex, nxt_bk, nxt_ct, nxt_bad, trn_nx, trn_ct, trn_bk, trn_rt, trn_ex, endF_rt, endF_nx, endF_ex, optR_some, getV_some, q_V, q_K, q_1, q_2, q_nil, q_cons, q_N, q_tup, q_lst, q_newT, q_newF, q_ifE, q_and, q_or, q_not, blR_bl, q_bl, q_val, q_dAnd, q_dOr, q_dNot, q_chain, q_call, q_callK, q_new, q_newK, q_cut, intR_int, q_partN, q_partS, q_src, q_lm, q_sNil, q_seq, q_ex, q_ret, q_retN, q_if, q_asg, q_par, q_par3, q_sub, q_gNm, q_for, forR_seq, forR_cell, forSeq_nil, q_comp, compR_seq, compR_cell, compSeq_nil, r_addI, r_addT, r_addL, r_subI, r_mulI, r_divI, r_modI, r_eqI, r_neI, r_eqS, r_neS, r_ltI, r_leI, r_gtI, r_geI, r_int, r_intB, r_abs, r_max, r_min, r_divmod, r_lenL, r_lenT, r_lenF, q_rng1, q_setAt, r_cutL, r_cutF, r_cutT, r_isN, r_isI, noX_ok, q_gTp2, q_gTp3, q_gTq2, q_gTq3, q_gSb, r_ixT, r_ixL, r_ixF, srcT, srcL, srcF, tr_bl, tr_int, wipeE, List.set_cons_zero, List.set_cons_succ, List.getElem?_cons_zero, List.getElem?_cons_succ, List.length_cons, List.length_nil, Nat.reduceAdd, Nat.reduceLeDiff, ↓reduceIte, Bool.false_eq_true, Bool.not_true, Bool.not_false, decide_true, decide_false, q_xnew, q_xnew0, mkX1, mkX2, pick0, pickA, pickK_some, pickDf, pickD_some, q_newSel, q_callSel, tryK_nx, tryK_rt, tryK_ex, q_tryX, cauK_ok, cauK_exc, q_caught, strRes_str, ownRes_bl, q_sm, strK_str, q_2F, q_NF, q_raise, excK_xv, q_rng2, at0, at1, at2, at3, at4, at5, at6, at7, at8, wp_ok, wp_exc, nxQ_nx, nxQ_rt, nxQ_ct, nxQ_bk, nxQ_ex, trQ_nx, trQ_ct, trQ_bk, trQ_rt, trQ_ex, enQ_rt, enQ_nx, enQ_ex, hd, e, metP, hitA, pureVs, pureV, Bool.and_self, err8 P, hotF_ok (v := .lv [.str ⟨#[116, 101, 120, 116]⟩, .str (reprText x)]) rfl, sText, neSame (show PyData.strOk ⟨#[116, 101, 120, 116]⟩ = true by decide +kernel) ro,
      show decide ((⟨#[116, 101, 120, 116]⟩ : Str) = ⟨#[116, 111, 108, 100]⟩) = false from by decide]
  | bad => rw [e] at hR; exact hR.elim
end
end Lw
set_option maxRecDepth 100000
set_option maxHeartbeats 0
namespace Lw
open PySem OL TL
/-! ### a line bent -/
def tot (ys : List Str) : Nat := (ys.map (·.length)).sum + ys.length
theorem tot_nil : tot [] = 0 := rfl
theorem tot_cons {y : Str} {ys : List Str} : tot (y :: ys) = y.length + 1 + tot ys := by
  simp only [tot, List.map_cons, List.sum_cons, List.length_cons]; omega
theorem tot_app : ∀ {xs ys : List Str}, tot (xs ++ ys) = tot xs + tot ys
  | [], ys => by rw [tot_nil, List.nil_append]; omega
  | x :: xs, ys => by rw [List.cons_append, tot_cons, tot_cons, tot_app]; omega
theorem tot_take : ∀ {xs : List Str} {i : Nat}, tot (xs.take i) ≤ tot xs
  | [], i => by rw [List.take_nil]; omega
  | x :: xs, 0 => by rw [List.take_zero, tot_nil]; omega
  | x :: xs, i + 1 => by rw [List.take_succ_cons, tot_cons, tot_cons]; have := tot_take (xs := xs) (i := i); omega
theorem tot_drop : ∀ {xs : List Str} {i : Nat}, tot (xs.drop i) ≤ tot xs
  | [], i => by rw [List.drop_nil]; omega
  | x :: xs, 0 => by rw [List.drop_zero]; omega
  | x :: xs, i + 1 => by rw [List.drop_succ_cons, tot_cons]; have := tot_drop (xs := xs) (i := i); omega
theorem tot_cut {xs : List Str} {lo hi : Option Int} : tot (cutL xs lo hi) ≤ tot xs := Nat.le_trans tot_take tot_drop
theorem tot_set : ∀ {xs : List Str} {i : Nat} {y : Str}, tot (xs.set i y) ≤ tot xs + y.length
  | [], i, y => by rw [List.set_nil]; omega
  | x :: xs, 0, y => by rw [List.set_cons_zero, tot_cons, tot_cons]; omega
  | x :: xs, i + 1, y => by rw [List.set_cons_succ, tot_cons, tot_cons]; have := tot_set (xs := xs) (i := i) (y := y); omega
/-- words, plain, of so many signs -/
structure Wds (m : Nat) (ys : List Str) : Prop where
  pl : ∀ p ∈ ys, ∀ c ∈ tl p, c < 128
  tot : tot ys ≤ m
theorem mem_cut {α : Type} {xs : List α} {lo hi : Option Int} {p : α} (h : p ∈ cutL xs lo hi) : p ∈ xs := List.mem_of_mem_drop (List.mem_of_mem_take h)
theorem Wds.cut {m : Nat} {ys : List Str} (h : Wds m ys) (lo hi : Option Int) : Wds m (cutL ys lo hi) := ⟨fun p hp => h.pl p (mem_cut hp), Nat.le_trans tot_cut h.tot⟩
theorem Wds.app {m n : Nat} {ys zs : List Str} (h : Wds m ys) (g : Wds n zs) : Wds (m + n) (ys ++ zs) := ⟨fun p hp => by
  rcases List.mem_append.mp hp with hp | hp
  · exact h.pl p hp
  · exact g.pl p hp, by rw [tot_app]; have := h.tot; have := g.tot; omega⟩
theorem Wds.one {m : Nat} {x : Str} (h : Pl m x) : Wds (m + 1) [x] := ⟨fun p hp => by rw [List.mem_singleton.mp hp]; exact h.pl, by rw [tot_cons, tot_nil]; have := h.len; omega⟩
theorem Wds.set {m n : Nat} {ys : List Str} {y : Str} (h : Wds m ys) (g : Pl n y) (i : Nat) : Wds (m + n) (ys.set i y) := ⟨fun p hp => by
  rcases List.mem_or_eq_of_mem_set hp with hp | hp
  · exact h.pl p hp
  · rw [hp]; exact g.pl, by have := tot_set (xs := ys) (i := i) (y := y); have := h.tot; have := g.len; omega⟩
theorem Wds.mono {m n : Nat} {ys : List Str} (h : Wds m ys) (l : m ≤ n) : Wds n ys := ⟨h.pl, Nat.le_trans h.tot l⟩
theorem Wds.mem {m : Nat} {ys : List Str} (h : Wds m ys) {y : Str} (hy : y ∈ ys) : Pl m y := ⟨by
  have h1 : y.length ≤ (ys.map (·.length)).sum := sum_mem (List.mem_map_of_mem (f := (·.length)) hy)
  have := h.tot
  unfold Lw.tot at this
  omega, h.pl y hy⟩
theorem Wds.split {m : Nat} {x : Str} (h : Pl m x) : Wds (m + 1) (Txt.split x ⟨#[32]⟩) := ⟨fun p hp => (h.part (s := 32) (by decide) hp).pl, by
  have := split1_sum x 32 (by decide)
  have := h.len
  unfold Lw.tot
  omega⟩
theorem Wds.join {m : Nat} {ys : List Str} (h : Wds m ys) : Pl m (Txt.join ⟨#[32]⟩ ys) := Pl.join h.pl h.tot
theorem allStr_map : ∀ ys : List Str, allStr (ys.map .str) = some ys
  | [] => rfl
  | y :: ys => by simp only [List.map_cons, allStr, allStr_map ys, Option.map_some]
theorem cutV {ys : List Str} {lo hi : Option Int} : cutL (ys.map PV.str) lo hi = (cutL ys lo hi).map .str := by
  simp only [cutL, List.length_map, List.map_take, List.map_drop]
section
variable {k n : Nat} {x : Str} {st : Sto} {F : CallT}
theorem joinR {m : Nat} {ys : List Str} (h : Wds m ys) (hm : m ≤ 1000000) : oJoin (.str ⟨#[32]⟩) (.lv (ys.map .str)) st = .ok (.str (Txt.join ⟨#[32]⟩ ys)) st := by
  have h1 := h.tot
  unfold tot at h1
  have e : (⟨#[32]⟩ : Str).length = 1 := rfl
  have e2 : (ys.map (·.length)).sum + ys.length * (⟨#[32]⟩ : Str).length ≤ 16777216 := by rw [e]; omega
  simp only [oJoin, seqOf, Option.bind_some, allStr_map, if_pos e2]
theorem joinC {m i : Nat} {ys : List Str} (hi : st[i]? = some (.lst (ys.map .str))) (h : Wds m ys) (hm : m ≤ 1000000) : oJoin (.str ⟨#[32]⟩) (.obj i) st = .ok (.str (Txt.join ⟨#[32]⟩ ys)) st := by
  have h1 := h.tot
  unfold tot at h1
  have e : (⟨#[32]⟩ : Str).length = 1 := rfl
  have e2 : (ys.map (·.length)).sum + ys.length * (⟨#[32]⟩ : Str).length ≤ 16777216 := by rw [e]; omega
  simp only [oJoin, seqOf, hi, Option.bind_some, allStr_map, if_pos e2]
theorem pl_cut {m : Nat} (h : Pl m x) (lo hi : Option Int) : Pl m (L2.cutS x lo hi) := ⟨Nat.le_trans (L2.cutS_length x lo hi) h.len, fun c hc => h.pl c (by
  unfold L2.cutS at hc
  exact List.mem_of_mem_drop (List.mem_of_mem_take hc))⟩
theorem cutR {m : Nat} {mt : Bool} {lo hi : Option Int} (h : Pl m x) (hm : m ≤ 100000) : oCut mt (.str x) lo hi st = .ok (.str (L2.cutS x lo hi)) st := by
  have : x.length ≤ 16777216 := by have := h.len; omega
  simp only [oCut, if_pos this]
theorem addR {m : Nat} {a b : Str} (h : Pl m a) (g : Pl m b) (hm : m ≤ 1000000) : oAdd (.str a) (.str b) st = .ok (.str (a ++ b)) st := addS (by have := h.len; have := g.len; omega)
theorem cutC {i : Nat} {ys : List Str} {lo hi : Option Int} (hi' : st[i]? = some (.lst (ys.map .str))) : oCut false (.obj i) lo hi st = .ok (.lv ((cutL ys lo hi).map .str)) st := by
  simp only [oCut, OL.listOf, hi', newL, Bool.false_eq_true, if_false, cutV]
theorem addL {m : Nat} {ys zs : List Str} (h : Wds m ys) (g : Wds m zs) (hm : m ≤ 1000000) : oAdd (.lv (ys.map .str)) (.lv (zs.map .str)) st = .ok (.lv ((ys ++ zs).map .str)) st := by
  have h1 := h.tot
  have h2 := g.tot
  unfold tot at h1 h2
  have e : (ys.map PV.str).length + (zs.map PV.str).length ≤ 16777216 := by rw [List.length_map, List.length_map]; omega
  rw [r_addL, if_pos e, List.map_append]
abbrev sgn : Str := ⟨#[32, 10, 48, 49, 50, 51, 52, 53, 54, 55, 56, 57, 97, 98, 99, 100, 101, 102, 103, 104, 105, 106, 107, 108, 109, 110, 111, 112, 113, 114, 115, 116, 117, 118, 119, 120, 121, 122, 65, 66, 72, 75, 79, 87, 88, 90, 43, 45, 58, 59, 44, 39, 40, 41]⟩
theorem atN {α : Type} {xs : List α} {d : Int} (h0 : 0 ≤ d) (h1 : d < xs.length) : ∃ x, L2.atI xs d = some x ∧ x ∈ xs := by
  obtain ⟨i, rfl⟩ := Int.eq_ofNat_of_zero_le h0
  have hi : i < xs.length := by omega
  exact ⟨xs[i], L2.atI_nat (List.getElem?_eq_getElem hi), List.getElem_mem hi⟩
theorem sgnR {d : Int} (h0 : 0 ≤ d) (h1 : d < 54) : ∃ y, (∀ st, oIx (.str sgn) (.int d) st = .ok (.str y) st) ∧ Pl 1 y := by
  obtain ⟨c, hc, hm⟩ := atN (xs := sgn.cps.toList) h0 h1
  refine ⟨⟨#[c]⟩, fun st => ?_, Nat.le_refl 1, fun z hz => ?_⟩
  · have : sgn.length ≤ 16777216 := by decide
    simp only [oIx, if_pos this, hc]
  · have hz : z = c := by simpa [tl] using hz
    subst hz
    exact (show ∀ c ∈ sgn.cps.toList, c < 128 by decide) z hm
theorem Prs.get {st st' : Sto} (C : Prs n st) (h : st'[n]? = st[n]?) : Prs n st' := by
  obtain ⟨a, b, c, hb, hc⟩ := C
  exact ⟨a, b, c, hb, by rw [h]; exact hc⟩
theorem Prs.lt (C : Prs n st) : n < st.length := by
  obtain ⟨a, b, c, hb, hc⟩ := C
  exact (List.getElem?_eq_some_iff.mp hc).1
theorem Prs.app {l : Sto} (C : Prs n st) : Prs n (st ++ l) := C.get (List.getElem?_append_left C.lt)
theorem pk {m : Int} (C : Prs n st) (h0 : 0 < m) (h1 : m < 1073741824) : WP (callK T2 (k + 1) 5 [.obj n, .int m] st) (fun v s => ∃ d, v = .int d ∧ 0 ≤ d ∧ d < m ∧ Prs n s ∧ s.length = st.length ∧ ∀ i, i ≠ n → s[i]? = st[i]?) NX := by
  obtain ⟨d, s, h, h2, h3, h4, h5, h6⟩ := pick5 (k := k) C h0 h1
  exact WP.of h ⟨d, rfl, h2, h3, h4, h5, h6⟩
def menuT : Str := ⟨#[49, 32, 50, 32, 51, 32, 52, 32, 57, 32, 49, 48, 32, 48, 32, 48, 49, 32, 48, 57, 32, 45, 49, 32, 43, 50, 32, 107, 101, 101, 112, 32, 98, 97, 99, 107, 32, 111, 117, 116, 32, 107, 101, 101, 112, 115, 32, 66, 97, 99, 107, 32, 104, 111, 117, 115, 101, 32, 119, 97, 118, 101, 32, 100, 97, 121, 115, 32, 115, 105, 108, 101, 110, 116, 32, 100, 101, 99, 108, 105, 110, 101, 100]⟩
def menu : List Str := Txt.split menuT ⟨#[32]⟩
theorem menu_pl : Wds 84 menu := Wds.split (m := 83) (show Pl 83 menuT from ⟨by decide +kernel, by decide +kernel⟩)
theorem menu_len : (menu ++ [(⟨#[]⟩ : Str)]).length = 22 := by decide +kernel
theorem atI_map {ys : List Str} {d : Int} {y : Str} (h : L2.atI ys d = some y) : L2.atI (ys.map PV.str) d = some (.str y) := by
  unfold L2.atI at h ⊢
  rw [List.length_map]
  cases e : L2.ixN ys.length d with
  | none => rw [e] at h; cases h
  | some j =>
    rw [e] at h
    simp only [Option.bind_some] at h ⊢
    rw [List.getElem?_map, h]; rfl
theorem ixN_nat {n j : Nat} (h : j < n) : L2.ixN n (j : Int) = some j := by
  simp [L2.ixN]; omega
theorem lst1 {x : PV} : [x].length ≤ 16777216 := by simp
theorem bent11 {m : Nat} (C : Prs n st) (P : Pl m x) (hm : m ≤ 20000) : WP (callK T2 (k + 2) 11 [.obj n, .str x] st) (fun v s => ∃ y, v = .str y ∧ Pl (4 * m + 200) y ∧ Prs n s) NX := by
  refine wp_go (fi := ⟨s11.ps, s11.N, b11⟩) rfl rfl rfl ?_
  have hS : startE s11.N.length [.obj n, .str x] = [some (.obj n), some (.str x), none, none, none, none, none, none, none, none] := rfl
  have hl := P.len
  have lx : ∀ z, bLen [.str x] z = .ok (.int (x.length : Nat)) z := fun z => lenS (by omega)
  have ls : ∀ z, bLen [.str sgn] z = .ok (.int 54) z := fun z => rfl
  simp only [hS, b11, bnd_ok, bnd_exc, bnd_bad, at_ok, at_exc, at_bad, nxt_nx, nxt_rt, nxt_ex, nxt_bk, nxt_ct, nxt_bad, trn_nx, trn_ct, trn_bk, trn_rt, trn_ex, endF_rt, endF_nx, endF_ex, optR_some, getV_some, q_V, q_K, q_1, q_2, q_nil, q_cons, q_N, q_tup, q_lst, q_newT, q_newF, q_ifE, q_and, q_or, q_not, blR_bl, q_bl, q_val, q_dAnd, q_dOr, q_dNot, q_chain, q_call, q_callK, q_new, q_newK, q_cut, intR_int, q_partN, q_partS, q_src, q_lm, q_sNil, q_seq, q_ex, q_ret, q_retN, q_if, q_asg, q_par, q_par3, q_sub, q_gNm, q_for, forR_seq, forR_cell, forSeq_nil, q_comp, compR_seq, compR_cell, compSeq_nil, r_addI, r_addT, r_addL, r_subI, r_mulI, r_divI, r_modI, r_eqI, r_neI, r_eqS, r_neS, r_ltI, r_leI, r_gtI, r_geI, r_int, r_intB, r_abs, r_max, r_min, r_divmod, r_lenL, r_lenT, r_lenF, q_rng1, q_setAt, r_cutL, r_cutF, r_cutT, r_isN, r_isI, noX_ok, q_gTp2, q_gTp3, q_gTq2, q_gTq3, q_gSb, r_ixT, r_ixL, r_ixF, srcT, srcL, srcF, tr_bl, tr_int, wipeE, List.set_cons_zero, List.set_cons_succ, List.getElem?_cons_zero, List.getElem?_cons_succ, List.length_cons, List.length_nil, Nat.reduceAdd, Nat.reduceLeDiff, ↓reduceIte, Bool.false_eq_true, Bool.not_true, Bool.not_false, decide_true, decide_false, q_xnew, q_xnew0, mkX1, mkX2, pick0, pickA, pickK_some, pickDf, pickD_some, q_newSel, q_callSel, tryK_nx, tryK_rt, tryK_ex, q_tryX, cauK_ok, cauK_exc, q_caught, strRes_str, ownRes_bl, q_sm, strK_str, q_2F, q_NF, q_raise, excK_xv, q_rng2, at0, at1, at2, at3, at4, at5, at6, at7, at8, wp_ok, wp_exc, nxQ_nx, nxQ_rt, nxQ_ct, nxQ_bk, nxQ_ex, trQ_nx, trQ_ct, trQ_bk, trQ_rt, trQ_ex, enQ_rt, enQ_nx, enQ_ex]
  repeat (with_reducible first | apply wp_nxt | apply wp_at | apply wp_bnd | apply wp_trn)
  refine (pk C (by decide) (by decide)).to ?_
  rintro _ s1 ⟨d1, rfl, a0, a1, C1, _, _⟩
  simp only [bnd_ok, bnd_exc, bnd_bad, at_ok, at_exc, at_bad, nxt_nx, nxt_rt, nxt_ex, nxt_bk, nxt_ct, nxt_bad, trn_nx, trn_ct, trn_bk, trn_rt, trn_ex, endF_rt, endF_nx, endF_ex, optR_some, getV_some, q_V, q_K, q_1, q_2, q_nil, q_cons, q_N, q_tup, q_lst, q_newT, q_newF, q_ifE, q_and, q_or, q_not, blR_bl, q_bl, q_val, q_dAnd, q_dOr, q_dNot, q_chain, q_call, q_callK, q_new, q_newK, q_cut, intR_int, q_partN, q_partS, q_src, q_lm, q_sNil, q_seq, q_ex, q_ret, q_retN, q_if, q_asg, q_par, q_par3, q_sub, q_gNm, q_for, forR_seq, forR_cell, forSeq_nil, q_comp, compR_seq, compR_cell, compSeq_nil, r_addI, r_addT, r_addL, r_subI, r_mulI, r_divI, r_modI, r_eqI, r_neI, r_eqS, r_neS, r_ltI, r_leI, r_gtI, r_geI, r_int, r_intB, r_abs, r_max, r_min, r_divmod, r_lenL, r_lenT, r_lenF, q_rng1, q_setAt, r_cutL, r_cutF, r_cutT, r_isN, r_isI, noX_ok, q_gTp2, q_gTp3, q_gTq2, q_gTq3, q_gSb, r_ixT, r_ixL, r_ixF, srcT, srcL, srcF, tr_bl, tr_int, wipeE, List.set_cons_zero, List.set_cons_succ, List.getElem?_cons_zero, List.getElem?_cons_succ, List.length_cons, List.length_nil, Nat.reduceAdd, Nat.reduceLeDiff, ↓reduceIte, Bool.false_eq_true, Bool.not_true, Bool.not_false, decide_true, decide_false, q_xnew, q_xnew0, mkX1, mkX2, pick0, pickA, pickK_some, pickDf, pickD_some, q_newSel, q_callSel, tryK_nx, tryK_rt, tryK_ex, q_tryX, cauK_ok, cauK_exc, q_caught, strRes_str, ownRes_bl, q_sm, strK_str, q_2F, q_NF, q_raise, excK_xv, q_rng2, at0, at1, at2, at3, at4, at5, at6, at7, at8, wp_ok, wp_exc, nxQ_nx, nxQ_rt, nxQ_ct, nxQ_bk, nxQ_ex, trQ_nx, trQ_ct, trQ_bk, trQ_rt, trQ_ex, enQ_rt, enQ_nx, enQ_ex, lx]
  repeat (with_reducible first | apply wp_nxt | apply wp_at | apply wp_bnd | apply wp_trn)
  refine (pk C1 (by omega) (by omega)).to ?_
  rintro _ s2 ⟨d2, rfl, b0, b1, C2, _, _⟩
  simp only [bnd_ok, bnd_exc, bnd_bad, at_ok, at_exc, at_bad, nxt_nx, nxt_rt, nxt_ex, nxt_bk, nxt_ct, nxt_bad, trn_nx, trn_ct, trn_bk, trn_rt, trn_ex, endF_rt, endF_nx, endF_ex, optR_some, getV_some, q_V, q_K, q_1, q_2, q_nil, q_cons, q_N, q_tup, q_lst, q_newT, q_newF, q_ifE, q_and, q_or, q_not, blR_bl, q_bl, q_val, q_dAnd, q_dOr, q_dNot, q_chain, q_call, q_callK, q_new, q_newK, q_cut, intR_int, q_partN, q_partS, q_src, q_lm, q_sNil, q_seq, q_ex, q_ret, q_retN, q_if, q_asg, q_par, q_par3, q_sub, q_gNm, q_for, forR_seq, forR_cell, forSeq_nil, q_comp, compR_seq, compR_cell, compSeq_nil, r_addI, r_addT, r_addL, r_subI, r_mulI, r_divI, r_modI, r_eqI, r_neI, r_eqS, r_neS, r_ltI, r_leI, r_gtI, r_geI, r_int, r_intB, r_abs, r_max, r_min, r_divmod, r_lenL, r_lenT, r_lenF, q_rng1, q_setAt, r_cutL, r_cutF, r_cutT, r_isN, r_isI, noX_ok, q_gTp2, q_gTp3, q_gTq2, q_gTq3, q_gSb, r_ixT, r_ixL, r_ixF, srcT, srcL, srcF, tr_bl, tr_int, wipeE, List.set_cons_zero, List.set_cons_succ, List.getElem?_cons_zero, List.getElem?_cons_succ, List.length_cons, List.length_nil, Nat.reduceAdd, Nat.reduceLeDiff, ↓reduceIte, Bool.false_eq_true, Bool.not_true, Bool.not_false, decide_true, decide_false, q_xnew, q_xnew0, mkX1, mkX2, pick0, pickA, pickK_some, pickDf, pickD_some, q_newSel, q_callSel, tryK_nx, tryK_rt, tryK_ex, q_tryX, cauK_ok, cauK_exc, q_caught, strRes_str, ownRes_bl, q_sm, strK_str, q_2F, q_NF, q_raise, excK_xv, q_rng2, at0, at1, at2, at3, at4, at5, at6, at7, at8, wp_ok, wp_exc, nxQ_nx, nxQ_rt, nxQ_ct, nxQ_bk, nxQ_ex, trQ_nx, trQ_ct, trQ_bk, trQ_rt, trQ_ex, enQ_rt, enQ_nx, enQ_ex, ls]
  repeat (with_reducible first | apply wp_nxt | apply wp_at | apply wp_bnd | apply wp_trn)
  refine (pk C2 (by decide) (by decide)).to ?_
  rintro _ s3 ⟨d3, rfl, c0, c1, C3, _, _⟩
  obtain ⟨y, hy, py⟩ := sgnR c0 c1
  simp only [bnd_ok, bnd_exc, bnd_bad, at_ok, at_exc, at_bad, nxt_nx, nxt_rt, nxt_ex, nxt_bk, nxt_ct, nxt_bad, trn_nx, trn_ct, trn_bk, trn_rt, trn_ex, endF_rt, endF_nx, endF_ex, optR_some, getV_some, q_V, q_K, q_1, q_2, q_nil, q_cons, q_N, q_tup, q_lst, q_newT, q_newF, q_ifE, q_and, q_or, q_not, blR_bl, q_bl, q_val, q_dAnd, q_dOr, q_dNot, q_chain, q_call, q_callK, q_new, q_newK, q_cut, intR_int, q_partN, q_partS, q_src, q_lm, q_sNil, q_seq, q_ex, q_ret, q_retN, q_if, q_asg, q_par, q_par3, q_sub, q_gNm, q_for, forR_seq, forR_cell, forSeq_nil, q_comp, compR_seq, compR_cell, compSeq_nil, r_addI, r_addT, r_addL, r_subI, r_mulI, r_divI, r_modI, r_eqI, r_neI, r_eqS, r_neS, r_ltI, r_leI, r_gtI, r_geI, r_int, r_intB, r_abs, r_max, r_min, r_divmod, r_lenL, r_lenT, r_lenF, q_rng1, q_setAt, r_cutL, r_cutF, r_cutT, r_isN, r_isI, noX_ok, q_gTp2, q_gTp3, q_gTq2, q_gTq3, q_gSb, r_ixT, r_ixL, r_ixF, srcT, srcL, srcF, tr_bl, tr_int, wipeE, List.set_cons_zero, List.set_cons_succ, List.getElem?_cons_zero, List.getElem?_cons_succ, List.length_cons, List.length_nil, Nat.reduceAdd, Nat.reduceLeDiff, ↓reduceIte, Bool.false_eq_true, Bool.not_true, Bool.not_false, decide_true, decide_false, q_xnew, q_xnew0, mkX1, mkX2, pick0, pickA, pickK_some, pickDf, pickD_some, q_newSel, q_callSel, tryK_nx, tryK_rt, tryK_ex, q_tryX, cauK_ok, cauK_exc, q_caught, strRes_str, ownRes_bl, q_sm, strK_str, q_2F, q_NF, q_raise, excK_xv, q_rng2, at0, at1, at2, at3, at4, at5, at6, at7, at8, wp_ok, wp_exc, nxQ_nx, nxQ_rt, nxQ_ct, nxQ_bk, nxQ_ex, trQ_nx, trQ_ct, trQ_bk, trQ_rt, trQ_ex, enQ_rt, enQ_nx, enQ_ex, hy]
  have pa := pl_cut P none (some d2)
  have pb := pl_cut P (some d2) none
  have pc := pl_cut P (some (d2 + 1)) none
  have ca : ∀ z, oCut false (.str x) none (some d2) z = .ok (.str (L2.cutS x none (some d2))) z := fun z => cutR P (by omega)
  have cb : ∀ z, oCut false (.str x) (some d2) none z = .ok (.str (L2.cutS x (some d2) none)) z := fun z => cutR P (by omega)
  have cc : ∀ z, oCut false (.str x) (some (d2 + 1)) none z = .ok (.str (L2.cutS x (some (d2 + 1)) none)) z := fun z => cutR P (by omega)
  generalize L2.cutS x none (some d2) = A at *
  generalize L2.cutS x (some d2) none = B at *
  generalize L2.cutS x (some (d2 + 1)) none = B' at *
  have e1 : ∀ z, oAdd (.str A) (.str y) z = .ok (.str (A ++ y)) z := fun z => addR (pa.mono (show m ≤ m + 1 by omega)) (py.mono (by omega)) (by omega)
  have e2 : ∀ z, oAdd (.str (A ++ y)) (.str B) z = .ok (.str (A ++ y ++ B)) z := fun z => addR (pa.app py) (pb.mono (by omega)) (by omega)
  have e3 : ∀ z, oAdd (.str A) (.str B') z = .ok (.str (A ++ B')) z := fun z => addR pa pc (by omega)
  have e4 : ∀ z, oAdd (.str (A ++ y)) (.str B') z = .ok (.str (A ++ y ++ B')) z := fun z => addR (pa.app py) (pc.mono (by omega)) (by omega)
  have split : d1 = 0 ∨ d1 = 1 ∨ d1 = 2 ∨ ¬ d1 < 3 := by omega
  rcases split with rfl | rfl | rfl | h3
  · simp only [show decide ((0 : Int) < 3) = true from rfl, bnd_ok, bnd_exc, bnd_bad, at_ok, at_exc, at_bad, nxt_nx, nxt_rt, nxt_ex, nxt_bk, nxt_ct, nxt_bad, trn_nx, trn_ct, trn_bk, trn_rt, trn_ex, endF_rt, endF_nx, endF_ex, optR_some, getV_some, q_V, q_K, q_1, q_2, q_nil, q_cons, q_N, q_tup, q_lst, q_newT, q_newF, q_ifE, q_and, q_or, q_not, blR_bl, q_bl, q_val, q_dAnd, q_dOr, q_dNot, q_chain, q_call, q_callK, q_new, q_newK, q_cut, intR_int, q_partN, q_partS, q_src, q_lm, q_sNil, q_seq, q_ex, q_ret, q_retN, q_if, q_asg, q_par, q_par3, q_sub, q_gNm, q_for, forR_seq, forR_cell, forSeq_nil, q_comp, compR_seq, compR_cell, compSeq_nil, r_addI, r_addT, r_addL, r_subI, r_mulI, r_divI, r_modI, r_eqI, r_neI, r_eqS, r_neS, r_ltI, r_leI, r_gtI, r_geI, r_int, r_intB, r_abs, r_max, r_min, r_divmod, r_lenL, r_lenT, r_lenF, q_rng1, q_setAt, r_cutL, r_cutF, r_cutT, r_isN, r_isI, noX_ok, q_gTp2, q_gTp3, q_gTq2, q_gTq3, q_gSb, r_ixT, r_ixL, r_ixF, srcT, srcL, srcF, tr_bl, tr_int, wipeE, List.set_cons_zero, List.set_cons_succ, List.getElem?_cons_zero, List.getElem?_cons_succ, List.length_cons, List.length_nil, Nat.reduceAdd, Nat.reduceLeDiff, ↓reduceIte, Bool.false_eq_true, Bool.not_true, Bool.not_false, decide_true, decide_false, q_xnew, q_xnew0, mkX1, mkX2, pick0, pickA, pickK_some, pickDf, pickD_some, q_newSel, q_callSel, tryK_nx, tryK_rt, tryK_ex, q_tryX, cauK_ok, cauK_exc, q_caught, strRes_str, ownRes_bl, q_sm, strK_str, q_2F, q_NF, q_raise, excK_xv, q_rng2, at0, at1, at2, at3, at4, at5, at6, at7, at8, wp_ok, wp_exc, nxQ_nx, nxQ_rt, nxQ_ct, nxQ_bk, nxQ_ex, trQ_nx, trQ_ct, trQ_bk, trQ_rt, trQ_ex, enQ_rt, enQ_nx, enQ_ex, ca, cb, cc, e1, e2, e3, e4]
    exact ⟨_, rfl, ((pa.app py).app pb).mono (by omega), C3⟩
  · simp only [show decide ((1 : Int) < 3) = true from rfl, bnd_ok, bnd_exc, bnd_bad, at_ok, at_exc, at_bad, nxt_nx, nxt_rt, nxt_ex, nxt_bk, nxt_ct, nxt_bad, trn_nx, trn_ct, trn_bk, trn_rt, trn_ex, endF_rt, endF_nx, endF_ex, optR_some, getV_some, q_V, q_K, q_1, q_2, q_nil, q_cons, q_N, q_tup, q_lst, q_newT, q_newF, q_ifE, q_and, q_or, q_not, blR_bl, q_bl, q_val, q_dAnd, q_dOr, q_dNot, q_chain, q_call, q_callK, q_new, q_newK, q_cut, intR_int, q_partN, q_partS, q_src, q_lm, q_sNil, q_seq, q_ex, q_ret, q_retN, q_if, q_asg, q_par, q_par3, q_sub, q_gNm, q_for, forR_seq, forR_cell, forSeq_nil, q_comp, compR_seq, compR_cell, compSeq_nil, r_addI, r_addT, r_addL, r_subI, r_mulI, r_divI, r_modI, r_eqI, r_neI, r_eqS, r_neS, r_ltI, r_leI, r_gtI, r_geI, r_int, r_intB, r_abs, r_max, r_min, r_divmod, r_lenL, r_lenT, r_lenF, q_rng1, q_setAt, r_cutL, r_cutF, r_cutT, r_isN, r_isI, noX_ok, q_gTp2, q_gTp3, q_gTq2, q_gTq3, q_gSb, r_ixT, r_ixL, r_ixF, srcT, srcL, srcF, tr_bl, tr_int, wipeE, List.set_cons_zero, List.set_cons_succ, List.getElem?_cons_zero, List.getElem?_cons_succ, List.length_cons, List.length_nil, Nat.reduceAdd, Nat.reduceLeDiff, ↓reduceIte, Bool.false_eq_true, Bool.not_true, Bool.not_false, decide_true, decide_false, q_xnew, q_xnew0, mkX1, mkX2, pick0, pickA, pickK_some, pickDf, pickD_some, q_newSel, q_callSel, tryK_nx, tryK_rt, tryK_ex, q_tryX, cauK_ok, cauK_exc, q_caught, strRes_str, ownRes_bl, q_sm, strK_str, q_2F, q_NF, q_raise, excK_xv, q_rng2, at0, at1, at2, at3, at4, at5, at6, at7, at8, wp_ok, wp_exc, nxQ_nx, nxQ_rt, nxQ_ct, nxQ_bk, nxQ_ex, trQ_nx, trQ_ct, trQ_bk, trQ_rt, trQ_ex, enQ_rt, enQ_nx, enQ_ex, ca, cb, cc, e1, e2, e3, e4]
    exact ⟨_, rfl, (pa.app pc).mono (by omega), C3⟩
  · simp only [show decide ((2 : Int) < 3) = true from rfl, bnd_ok, bnd_exc, bnd_bad, at_ok, at_exc, at_bad, nxt_nx, nxt_rt, nxt_ex, nxt_bk, nxt_ct, nxt_bad, trn_nx, trn_ct, trn_bk, trn_rt, trn_ex, endF_rt, endF_nx, endF_ex, optR_some, getV_some, q_V, q_K, q_1, q_2, q_nil, q_cons, q_N, q_tup, q_lst, q_newT, q_newF, q_ifE, q_and, q_or, q_not, blR_bl, q_bl, q_val, q_dAnd, q_dOr, q_dNot, q_chain, q_call, q_callK, q_new, q_newK, q_cut, intR_int, q_partN, q_partS, q_src, q_lm, q_sNil, q_seq, q_ex, q_ret, q_retN, q_if, q_asg, q_par, q_par3, q_sub, q_gNm, q_for, forR_seq, forR_cell, forSeq_nil, q_comp, compR_seq, compR_cell, compSeq_nil, r_addI, r_addT, r_addL, r_subI, r_mulI, r_divI, r_modI, r_eqI, r_neI, r_eqS, r_neS, r_ltI, r_leI, r_gtI, r_geI, r_int, r_intB, r_abs, r_max, r_min, r_divmod, r_lenL, r_lenT, r_lenF, q_rng1, q_setAt, r_cutL, r_cutF, r_cutT, r_isN, r_isI, noX_ok, q_gTp2, q_gTp3, q_gTq2, q_gTq3, q_gSb, r_ixT, r_ixL, r_ixF, srcT, srcL, srcF, tr_bl, tr_int, wipeE, List.set_cons_zero, List.set_cons_succ, List.getElem?_cons_zero, List.getElem?_cons_succ, List.length_cons, List.length_nil, Nat.reduceAdd, Nat.reduceLeDiff, ↓reduceIte, Bool.false_eq_true, Bool.not_true, Bool.not_false, decide_true, decide_false, q_xnew, q_xnew0, mkX1, mkX2, pick0, pickA, pickK_some, pickDf, pickD_some, q_newSel, q_callSel, tryK_nx, tryK_rt, tryK_ex, q_tryX, cauK_ok, cauK_exc, q_caught, strRes_str, ownRes_bl, q_sm, strK_str, q_2F, q_NF, q_raise, excK_xv, q_rng2, at0, at1, at2, at3, at4, at5, at6, at7, at8, wp_ok, wp_exc, nxQ_nx, nxQ_rt, nxQ_ct, nxQ_bk, nxQ_ex, trQ_nx, trQ_ct, trQ_bk, trQ_rt, trQ_ex, enQ_rt, enQ_nx, enQ_ex, ca, cb, cc, e1, e2, e3, e4]
    exact ⟨_, rfl, ((pa.app py).app pc).mono (by omega), C3⟩
  clear e1 e2 e3 e4 ca cb cc pa pb pc
  have W := Wds.split P
  have sp : ∀ z, oSplit true (.str x) (.str ⟨#[32]⟩) z = newL true ((Txt.split x ⟨#[32]⟩).map .str) z := fun z => splitR (by omega)
  have wn := split1_ne x 32 (by decide)
  have h1 := W.tot
  unfold tot at h1
  have lc : 0 < (Txt.split x ⟨#[32]⟩).length := List.length_pos_iff.mpr wn
  generalize Txt.split x ⟨#[32]⟩ = ys at *
  simp only [decide_eq_false h3, bnd_ok, bnd_exc, bnd_bad, at_ok, at_exc, at_bad, nxt_nx, nxt_rt, nxt_ex, nxt_bk, nxt_ct, nxt_bad, trn_nx, trn_ct, trn_bk, trn_rt, trn_ex, endF_rt, endF_nx, endF_ex, optR_some, getV_some, q_V, q_K, q_1, q_2, q_nil, q_cons, q_N, q_tup, q_lst, q_newT, q_newF, q_ifE, q_and, q_or, q_not, blR_bl, q_bl, q_val, q_dAnd, q_dOr, q_dNot, q_chain, q_call, q_callK, q_new, q_newK, q_cut, intR_int, q_partN, q_partS, q_src, q_lm, q_sNil, q_seq, q_ex, q_ret, q_retN, q_if, q_asg, q_par, q_par3, q_sub, q_gNm, q_for, forR_seq, forR_cell, forSeq_nil, q_comp, compR_seq, compR_cell, compSeq_nil, r_addI, r_addT, r_addL, r_subI, r_mulI, r_divI, r_modI, r_eqI, r_neI, r_eqS, r_neS, r_ltI, r_leI, r_gtI, r_geI, r_int, r_intB, r_abs, r_max, r_min, r_divmod, r_lenL, r_lenT, r_lenF, q_rng1, q_setAt, r_cutL, r_cutF, r_cutT, r_isN, r_isI, noX_ok, q_gTp2, q_gTp3, q_gTq2, q_gTq3, q_gSb, r_ixT, r_ixL, r_ixF, srcT, srcL, srcF, tr_bl, tr_int, wipeE, List.set_cons_zero, List.set_cons_succ, List.getElem?_cons_zero, List.getElem?_cons_succ, List.length_cons, List.length_nil, Nat.reduceAdd, Nat.reduceLeDiff, ↓reduceIte, Bool.false_eq_true, Bool.not_true, Bool.not_false, decide_true, decide_false, q_xnew, q_xnew0, mkX1, mkX2, pick0, pickA, pickK_some, pickDf, pickD_some, q_newSel, q_callSel, tryK_nx, tryK_rt, tryK_ex, q_tryX, cauK_ok, cauK_exc, q_caught, strRes_str, ownRes_bl, q_sm, strK_str, q_2F, q_NF, q_raise, excK_xv, q_rng2, at0, at1, at2, at3, at4, at5, at6, at7, at8, wp_ok, wp_exc, nxQ_nx, nxQ_rt, nxQ_ct, nxQ_bk, nxQ_ex, trQ_nx, trQ_ct, trQ_bk, trQ_rt, trQ_ex, enQ_rt, enQ_nx, enQ_ex, sp]
  have hc : (s3 ++ [.lst (ys.map .str)])[s3.length]? = some (.lst (ys.map PV.str)) := app_at
  have C4 : Prs n (s3 ++ [.lst (ys.map .str)]) := C3.app
  have ne : s3.length ≠ n := by have := C3.lt; omega
  generalize s3 ++ [.lst (ys.map .str)] = s4 at *
  generalize s3.length = i at *
  have ln : ∀ z : Sto, z[i]? = some (.lst (ys.map PV.str)) → bLen [.obj i] z = .ok (.int (ys.length : Nat)) z := fun z hz => by
    simp only [bLen, lenOf, seqOf, hz, Option.map_some, List.length_map]
  simp only [ln _ hc, bnd_ok, bnd_exc, bnd_bad, at_ok, at_exc, at_bad, nxt_nx, nxt_rt, nxt_ex, nxt_bk, nxt_ct, nxt_bad, trn_nx, trn_ct, trn_bk, trn_rt, trn_ex, endF_rt, endF_nx, endF_ex, optR_some, getV_some, q_V, q_K, q_1, q_2, q_nil, q_cons, q_N, q_tup, q_lst, q_newT, q_newF, q_ifE, q_and, q_or, q_not, blR_bl, q_bl, q_val, q_dAnd, q_dOr, q_dNot, q_chain, q_call, q_callK, q_new, q_newK, q_cut, intR_int, q_partN, q_partS, q_src, q_lm, q_sNil, q_seq, q_ex, q_ret, q_retN, q_if, q_asg, q_par, q_par3, q_sub, q_gNm, q_for, forR_seq, forR_cell, forSeq_nil, q_comp, compR_seq, compR_cell, compSeq_nil, r_addI, r_addT, r_addL, r_subI, r_mulI, r_divI, r_modI, r_eqI, r_neI, r_eqS, r_neS, r_ltI, r_leI, r_gtI, r_geI, r_int, r_intB, r_abs, r_max, r_min, r_divmod, r_lenL, r_lenT, r_lenF, q_rng1, q_setAt, r_cutL, r_cutF, r_cutT, r_isN, r_isI, noX_ok, q_gTp2, q_gTp3, q_gTq2, q_gTq3, q_gSb, r_ixT, r_ixL, r_ixF, srcT, srcL, srcF, tr_bl, tr_int, wipeE, List.set_cons_zero, List.set_cons_succ, List.getElem?_cons_zero, List.getElem?_cons_succ, List.length_cons, List.length_nil, Nat.reduceAdd, Nat.reduceLeDiff, ↓reduceIte, Bool.false_eq_true, Bool.not_true, Bool.not_false, decide_true, decide_false, q_xnew, q_xnew0, mkX1, mkX2, pick0, pickA, pickK_some, pickDf, pickD_some, q_newSel, q_callSel, tryK_nx, tryK_rt, tryK_ex, q_tryX, cauK_ok, cauK_exc, q_caught, strRes_str, ownRes_bl, q_sm, strK_str, q_2F, q_NF, q_raise, excK_xv, q_rng2, at0, at1, at2, at3, at4, at5, at6, at7, at8, wp_ok, wp_exc, nxQ_nx, nxQ_rt, nxQ_ct, nxQ_bk, nxQ_ex, trQ_nx, trQ_ct, trQ_bk, trQ_rt, trQ_ex, enQ_rt, enQ_nx, enQ_ex]
  repeat (with_reducible first | apply wp_nxt | apply wp_at | apply wp_bnd | apply wp_trn)
  refine (pk C4 (by omega) (by omega)).to ?_
  rintro _ s5 ⟨d5, rfl, f0, f1, C5, _, f5⟩
  have hc5 : s5[i]? = some (.lst (ys.map PV.str)) := by rw [f5 i ne]; exact hc
  simp only [ln _ hc5, bnd_ok, bnd_exc, bnd_bad, at_ok, at_exc, at_bad, nxt_nx, nxt_rt, nxt_ex, nxt_bk, nxt_ct, nxt_bad, trn_nx, trn_ct, trn_bk, trn_rt, trn_ex, endF_rt, endF_nx, endF_ex, optR_some, getV_some, q_V, q_K, q_1, q_2, q_nil, q_cons, q_N, q_tup, q_lst, q_newT, q_newF, q_ifE, q_and, q_or, q_not, blR_bl, q_bl, q_val, q_dAnd, q_dOr, q_dNot, q_chain, q_call, q_callK, q_new, q_newK, q_cut, intR_int, q_partN, q_partS, q_src, q_lm, q_sNil, q_seq, q_ex, q_ret, q_retN, q_if, q_asg, q_par, q_par3, q_sub, q_gNm, q_for, forR_seq, forR_cell, forSeq_nil, q_comp, compR_seq, compR_cell, compSeq_nil, r_addI, r_addT, r_addL, r_subI, r_mulI, r_divI, r_modI, r_eqI, r_neI, r_eqS, r_neS, r_ltI, r_leI, r_gtI, r_geI, r_int, r_intB, r_abs, r_max, r_min, r_divmod, r_lenL, r_lenT, r_lenF, q_rng1, q_setAt, r_cutL, r_cutF, r_cutT, r_isN, r_isI, noX_ok, q_gTp2, q_gTp3, q_gTq2, q_gTq3, q_gSb, r_ixT, r_ixL, r_ixF, srcT, srcL, srcF, tr_bl, tr_int, wipeE, List.set_cons_zero, List.set_cons_succ, List.getElem?_cons_zero, List.getElem?_cons_succ, List.length_cons, List.length_nil, Nat.reduceAdd, Nat.reduceLeDiff, ↓reduceIte, Bool.false_eq_true, Bool.not_true, Bool.not_false, decide_true, decide_false, q_xnew, q_xnew0, mkX1, mkX2, pick0, pickA, pickK_some, pickDf, pickD_some, q_newSel, q_callSel, tryK_nx, tryK_rt, tryK_ex, q_tryX, cauK_ok, cauK_exc, q_caught, strRes_str, ownRes_bl, q_sm, strK_str, q_2F, q_NF, q_raise, excK_xv, q_rng2, at0, at1, at2, at3, at4, at5, at6, at7, at8, wp_ok, wp_exc, nxQ_nx, nxQ_rt, nxQ_ct, nxQ_bk, nxQ_ex, trQ_nx, trQ_ct, trQ_bk, trQ_rt, trQ_ex, enQ_rt, enQ_nx, enQ_ex]
  repeat (with_reducible first | apply wp_nxt | apply wp_at | apply wp_bnd | apply wp_trn)
  refine (pk C5 (by omega) (by omega)).to ?_
  rintro _ s6 ⟨d6, rfl, g0, g1, C6, _, f6⟩
  have hc6 : s6[i]? = some (.lst (ys.map PV.str)) := by rw [f6 i ne]; exact hc5
  have W1 := W.cut none (some d5)
  have W2 := W.cut (some (d5 + 1)) none
  have W3 := W.cut none (some (d5 + 1))
  have W4 := W.cut (some d5) none
  have split : d1 = 3 ∨ d1 = 4 ∨ d1 = 5 ∨ d1 = 6 ∨ d1 = 7 := by omega
  rcases split with rfl | rfl | rfl | rfl | rfl
  · simp only [bnd_ok, bnd_exc, bnd_bad, at_ok, at_exc, at_bad, nxt_nx, nxt_rt, nxt_ex, nxt_bk, nxt_ct, nxt_bad, trn_nx, trn_ct, trn_bk, trn_rt, trn_ex, endF_rt, endF_nx, endF_ex, optR_some, getV_some, q_V, q_K, q_1, q_2, q_nil, q_cons, q_N, q_tup, q_lst, q_newT, q_newF, q_ifE, q_and, q_or, q_not, blR_bl, q_bl, q_val, q_dAnd, q_dOr, q_dNot, q_chain, q_call, q_callK, q_new, q_newK, q_cut, intR_int, q_partN, q_partS, q_src, q_lm, q_sNil, q_seq, q_ex, q_ret, q_retN, q_if, q_asg, q_par, q_par3, q_sub, q_gNm, q_for, forR_seq, forR_cell, forSeq_nil, q_comp, compR_seq, compR_cell, compSeq_nil, r_addI, r_addT, r_addL, r_subI, r_mulI, r_divI, r_modI, r_eqI, r_neI, r_eqS, r_neS, r_ltI, r_leI, r_gtI, r_geI, r_int, r_intB, r_abs, r_max, r_min, r_divmod, r_lenL, r_lenT, r_lenF, q_rng1, q_setAt, r_cutL, r_cutF, r_cutT, r_isN, r_isI, noX_ok, q_gTp2, q_gTp3, q_gTq2, q_gTq3, q_gSb, r_ixT, r_ixL, r_ixF, srcT, srcL, srcF, tr_bl, tr_int, wipeE, List.set_cons_zero, List.set_cons_succ, List.getElem?_cons_zero, List.getElem?_cons_succ, List.length_cons, List.length_nil, Nat.reduceAdd, Nat.reduceLeDiff, ↓reduceIte, Bool.false_eq_true, Bool.not_true, Bool.not_false, decide_true, decide_false, q_xnew, q_xnew0, mkX1, mkX2, pick0, pickA, pickK_some, pickDf, pickD_some, q_newSel, q_callSel, tryK_nx, tryK_rt, tryK_ex, q_tryX, cauK_ok, cauK_exc, q_caught, strRes_str, ownRes_bl, q_sm, strK_str, q_2F, q_NF, q_raise, excK_xv, q_rng2, at0, at1, at2, at3, at4, at5, at6, at7, at8, wp_ok, wp_exc, nxQ_nx, nxQ_rt, nxQ_ct, nxQ_bk, nxQ_ex, trQ_nx, trQ_ct, trQ_bk, trQ_rt, trQ_ex, enQ_rt, enQ_nx, enQ_ex, cutC hc6, addL W1 W2 (by omega), joinR (W1.app W2) (by omega)]
    exact ⟨_, rfl, (W1.app W2).join.mono (by omega), C6⟩
  · simp only [show decide ((4 : Int) = 3) = false from rfl, bnd_ok, bnd_exc, bnd_bad, at_ok, at_exc, at_bad, nxt_nx, nxt_rt, nxt_ex, nxt_bk, nxt_ct, nxt_bad, trn_nx, trn_ct, trn_bk, trn_rt, trn_ex, endF_rt, endF_nx, endF_ex, optR_some, getV_some, q_V, q_K, q_1, q_2, q_nil, q_cons, q_N, q_tup, q_lst, q_newT, q_newF, q_ifE, q_and, q_or, q_not, blR_bl, q_bl, q_val, q_dAnd, q_dOr, q_dNot, q_chain, q_call, q_callK, q_new, q_newK, q_cut, intR_int, q_partN, q_partS, q_src, q_lm, q_sNil, q_seq, q_ex, q_ret, q_retN, q_if, q_asg, q_par, q_par3, q_sub, q_gNm, q_for, forR_seq, forR_cell, forSeq_nil, q_comp, compR_seq, compR_cell, compSeq_nil, r_addI, r_addT, r_addL, r_subI, r_mulI, r_divI, r_modI, r_eqI, r_neI, r_eqS, r_neS, r_ltI, r_leI, r_gtI, r_geI, r_int, r_intB, r_abs, r_max, r_min, r_divmod, r_lenL, r_lenT, r_lenF, q_rng1, q_setAt, r_cutL, r_cutF, r_cutT, r_isN, r_isI, noX_ok, q_gTp2, q_gTp3, q_gTq2, q_gTq3, q_gSb, r_ixT, r_ixL, r_ixF, srcT, srcL, srcF, tr_bl, tr_int, wipeE, List.set_cons_zero, List.set_cons_succ, List.getElem?_cons_zero, List.getElem?_cons_succ, List.length_cons, List.length_nil, Nat.reduceAdd, Nat.reduceLeDiff, ↓reduceIte, Bool.false_eq_true, Bool.not_true, Bool.not_false, decide_true, decide_false, q_xnew, q_xnew0, mkX1, mkX2, pick0, pickA, pickK_some, pickDf, pickD_some, q_newSel, q_callSel, tryK_nx, tryK_rt, tryK_ex, q_tryX, cauK_ok, cauK_exc, q_caught, strRes_str, ownRes_bl, q_sm, strK_str, q_2F, q_NF, q_raise, excK_xv, q_rng2, at0, at1, at2, at3, at4, at5, at6, at7, at8, wp_ok, wp_exc, nxQ_nx, nxQ_rt, nxQ_ct, nxQ_bk, nxQ_ex, trQ_nx, trQ_ct, trQ_bk, trQ_rt, trQ_ex, enQ_rt, enQ_nx, enQ_ex, cutC hc6, addL W3 W4 (by omega), joinR (W3.app W4) (by omega)]
    exact ⟨_, rfl, (W3.app W4).join.mono (by omega), C6⟩
  · obtain ⟨y5, h5, m5⟩ := atN (xs := ys) (d := d5) f0 (by omega)
    obtain ⟨y6, h6, m6⟩ := atN (xs := ys) (d := d6) g0 (by omega)
    obtain ⟨i5, rfl⟩ := Int.eq_ofNat_of_zero_le f0
    obtain ⟨i6, rfl⟩ := Int.eq_ofNat_of_zero_le g0
    have k5 : L2.atI (ys.map PV.str) (i5 : Int) = some (.str y5) := atI_map h5
    have k6 : L2.atI (ys.map PV.str) (i6 : Int) = some (.str y6) := atI_map h6
    have n5 : L2.ixN (ys.map PV.str).length (i5 : Int) = some i5 := ixN_nat (by rw [List.length_map]; omega)
    have x7 := set_at (d := .lst ((ys.map PV.str).set i5 (.str y6))) hc6
    have n6 : L2.ixN ((ys.map PV.str).set i5 (.str y6)).length (i6 : Int) = some i6 := ixN_nat (by rw [List.length_set, List.length_map]; omega)
    have x8 := set_at (d := .lst (((ys.map PV.str).set i5 (.str y6)).set i6 (.str y5))) x7
    have e8 : ((ys.map PV.str).set i5 (.str y6)).set i6 (.str y5) = ((ys.set i5 y6).set i6 y5).map .str := by rw [← List.map_set, ← List.map_set]
    have W8 := (W.set (W.mem m6) i5).set (W.mem m5) i6
    simp only [show decide ((5 : Int) = 3) = false from rfl, show decide ((5 : Int) = 4) = false from rfl, bnd_ok, bnd_exc, bnd_bad, at_ok, at_exc, at_bad, nxt_nx, nxt_rt, nxt_ex, nxt_bk, nxt_ct, nxt_bad, trn_nx, trn_ct, trn_bk, trn_rt, trn_ex, endF_rt, endF_nx, endF_ex, optR_some, getV_some, q_V, q_K, q_1, q_2, q_nil, q_cons, q_N, q_tup, q_lst, q_newT, q_newF, q_ifE, q_and, q_or, q_not, blR_bl, q_bl, q_val, q_dAnd, q_dOr, q_dNot, q_chain, q_call, q_callK, q_new, q_newK, q_cut, intR_int, q_partN, q_partS, q_src, q_lm, q_sNil, q_seq, q_ex, q_ret, q_retN, q_if, q_asg, q_par, q_par3, q_sub, q_gNm, q_for, forR_seq, forR_cell, forSeq_nil, q_comp, compR_seq, compR_cell, compSeq_nil, r_addI, r_addT, r_addL, r_subI, r_mulI, r_divI, r_modI, r_eqI, r_neI, r_eqS, r_neS, r_ltI, r_leI, r_gtI, r_geI, r_int, r_intB, r_abs, r_max, r_min, r_divmod, r_lenL, r_lenT, r_lenF, q_rng1, q_setAt, r_cutL, r_cutF, r_cutT, r_isN, r_isI, noX_ok, q_gTp2, q_gTp3, q_gTq2, q_gTq3, q_gSb, r_ixT, r_ixL, r_ixF, srcT, srcL, srcF, tr_bl, tr_int, wipeE, List.set_cons_zero, List.set_cons_succ, List.getElem?_cons_zero, List.getElem?_cons_succ, List.length_cons, List.length_nil, Nat.reduceAdd, Nat.reduceLeDiff, ↓reduceIte, Bool.false_eq_true, Bool.not_true, Bool.not_false, decide_true, decide_false, q_xnew, q_xnew0, mkX1, mkX2, pick0, pickA, pickK_some, pickDf, pickD_some, q_newSel, q_callSel, tryK_nx, tryK_rt, tryK_ex, q_tryX, cauK_ok, cauK_exc, q_caught, strRes_str, ownRes_bl, q_sm, strK_str, q_2F, q_NF, q_raise, excK_xv, q_rng2, at0, at1, at2, at3, at4, at5, at6, at7, at8, wp_ok, wp_exc, nxQ_nx, nxQ_rt, nxQ_ct, nxQ_bk, nxQ_ex, trQ_nx, trQ_ct, trQ_bk, trQ_rt, trQ_ex, enQ_rt, enQ_nx, enQ_ex, r_ixO hc6 k5, r_ixO hc6 k6, r_set hc6 n5, r_set x7 n6]
    rw [e8] at x8 ⊢
    simp only [joinC x8 W8 (by omega), bnd_ok, bnd_exc, bnd_bad, at_ok, at_exc, at_bad, nxt_nx, nxt_rt, nxt_ex, nxt_bk, nxt_ct, nxt_bad, trn_nx, trn_ct, trn_bk, trn_rt, trn_ex, endF_rt, endF_nx, endF_ex, optR_some, getV_some, q_V, q_K, q_1, q_2, q_nil, q_cons, q_N, q_tup, q_lst, q_newT, q_newF, q_ifE, q_and, q_or, q_not, blR_bl, q_bl, q_val, q_dAnd, q_dOr, q_dNot, q_chain, q_call, q_callK, q_new, q_newK, q_cut, intR_int, q_partN, q_partS, q_src, q_lm, q_sNil, q_seq, q_ex, q_ret, q_retN, q_if, q_asg, q_par, q_par3, q_sub, q_gNm, q_for, forR_seq, forR_cell, forSeq_nil, q_comp, compR_seq, compR_cell, compSeq_nil, r_addI, r_addT, r_addL, r_subI, r_mulI, r_divI, r_modI, r_eqI, r_neI, r_eqS, r_neS, r_ltI, r_leI, r_gtI, r_geI, r_int, r_intB, r_abs, r_max, r_min, r_divmod, r_lenL, r_lenT, r_lenF, q_rng1, q_setAt, r_cutL, r_cutF, r_cutT, r_isN, r_isI, noX_ok, q_gTp2, q_gTp3, q_gTq2, q_gTq3, q_gSb, r_ixT, r_ixL, r_ixF, srcT, srcL, srcF, tr_bl, tr_int, wipeE, List.set_cons_zero, List.set_cons_succ, List.getElem?_cons_zero, List.getElem?_cons_succ, List.length_cons, List.length_nil, Nat.reduceAdd, Nat.reduceLeDiff, ↓reduceIte, Bool.false_eq_true, Bool.not_true, Bool.not_false, decide_true, decide_false, q_xnew, q_xnew0, mkX1, mkX2, pick0, pickA, pickK_some, pickDf, pickD_some, q_newSel, q_callSel, tryK_nx, tryK_rt, tryK_ex, q_tryX, cauK_ok, cauK_exc, q_caught, strRes_str, ownRes_bl, q_sm, strK_str, q_2F, q_NF, q_raise, excK_xv, q_rng2, at0, at1, at2, at3, at4, at5, at6, at7, at8, wp_ok, wp_exc, nxQ_nx, nxQ_rt, nxQ_ct, nxQ_bk, nxQ_ex, trQ_nx, trQ_ct, trQ_bk, trQ_rt, trQ_ex, enQ_rt, enQ_nx, enQ_ex]
    refine ⟨_, rfl, W8.join.mono (by omega), C6.get ?_⟩
    rw [List.getElem?_set_ne ne, List.getElem?_set_ne ne]
  · have p1 : Pl 1 (⟨#[32]⟩ : Str) := ⟨by decide, by decide⟩
    have p2 : Pl 1 (⟨#[10]⟩ : Str) := ⟨by decide, by decide⟩
    have q1 : ∀ z, oAdd (.str x) (.str ⟨#[32]⟩) z = .ok (.str (x ++ ⟨#[32]⟩)) z := fun z => addR (P.mono (show m ≤ m + 1 by omega)) (p1.mono (by omega)) (by omega)
    have q2 : ∀ z, oAdd (.str ⟨#[32]⟩) (.str x) z = .ok (.str (⟨#[32]⟩ ++ x)) z := fun z => addR (p1.mono (show 1 ≤ m + 1 by omega)) (P.mono (by omega)) (by omega)
    have q3 : ∀ z, oAdd (.str x) (.str ⟨#[10]⟩) z = .ok (.str (x ++ ⟨#[10]⟩)) z := fun z => addR (P.mono (show m ≤ m + 1 by omega)) (p2.mono (by omega)) (by omega)
    have q4 : ∀ z, oAdd (.str ⟨#[10]⟩) (.str x) z = .ok (.str (⟨#[10]⟩ ++ x)) z := fun z => addR (p2.mono (show 1 ≤ m + 1 by omega)) (P.mono (by omega)) (by omega)
    have q5 : ∀ z, oAdd (.str x) (.str x) z = .ok (.str (x ++ x)) z := fun z => addR P P (by omega)
    simp only [show decide ((6 : Int) = 3) = false from rfl, show decide ((6 : Int) = 4) = false from rfl, show decide ((6 : Int) = 5) = false from rfl, bnd_ok, bnd_exc, bnd_bad, at_ok, at_exc, at_bad, nxt_nx, nxt_rt, nxt_ex, nxt_bk, nxt_ct, nxt_bad, trn_nx, trn_ct, trn_bk, trn_rt, trn_ex, endF_rt, endF_nx, endF_ex, optR_some, getV_some, q_V, q_K, q_1, q_2, q_nil, q_cons, q_N, q_tup, q_lst, q_newT, q_newF, q_ifE, q_and, q_or, q_not, blR_bl, q_bl, q_val, q_dAnd, q_dOr, q_dNot, q_chain, q_call, q_callK, q_new, q_newK, q_cut, intR_int, q_partN, q_partS, q_src, q_lm, q_sNil, q_seq, q_ex, q_ret, q_retN, q_if, q_asg, q_par, q_par3, q_sub, q_gNm, q_for, forR_seq, forR_cell, forSeq_nil, q_comp, compR_seq, compR_cell, compSeq_nil, r_addI, r_addT, r_addL, r_subI, r_mulI, r_divI, r_modI, r_eqI, r_neI, r_eqS, r_neS, r_ltI, r_leI, r_gtI, r_geI, r_int, r_intB, r_abs, r_max, r_min, r_divmod, r_lenL, r_lenT, r_lenF, q_rng1, q_setAt, r_cutL, r_cutF, r_cutT, r_isN, r_isI, noX_ok, q_gTp2, q_gTp3, q_gTq2, q_gTq3, q_gSb, r_ixT, r_ixL, r_ixF, srcT, srcL, srcF, tr_bl, tr_int, wipeE, List.set_cons_zero, List.set_cons_succ, List.getElem?_cons_zero, List.getElem?_cons_succ, List.length_cons, List.length_nil, Nat.reduceAdd, Nat.reduceLeDiff, ↓reduceIte, Bool.false_eq_true, Bool.not_true, Bool.not_false, decide_true, decide_false, q_xnew, q_xnew0, mkX1, mkX2, pick0, pickA, pickK_some, pickDf, pickD_some, q_newSel, q_callSel, tryK_nx, tryK_rt, tryK_ex, q_tryX, cauK_ok, cauK_exc, q_caught, strRes_str, ownRes_bl, q_sm, strK_str, q_2F, q_NF, q_raise, excK_xv, q_rng2, at0, at1, at2, at3, at4, at5, at6, at7, at8, wp_ok, wp_exc, nxQ_nx, nxQ_rt, nxQ_ct, nxQ_bk, nxQ_ex, trQ_nx, trQ_ct, trQ_bk, trQ_rt, trQ_ex, enQ_rt, enQ_nx, enQ_ex, q1, q2, q3, q4, q5]
    repeat (with_reducible first | apply wp_nxt | apply wp_at | apply wp_bnd | apply wp_trn)
    refine (pk C6 (by decide) (by decide)).to ?_
    rintro _ s7 ⟨d7, rfl, j0, j1, C7, _, f7⟩
    have : d7 = 0 ∨ d7 = 1 ∨ d7 = 2 ∨ d7 = 3 ∨ d7 = 4 := by omega
    rcases this with rfl | rfl | rfl | rfl | rfl
    · simp only [bnd_ok, bnd_exc, bnd_bad, at_ok, at_exc, at_bad, nxt_nx, nxt_rt, nxt_ex, nxt_bk, nxt_ct, nxt_bad, trn_nx, trn_ct, trn_bk, trn_rt, trn_ex, endF_rt, endF_nx, endF_ex, optR_some, getV_some, q_V, q_K, q_1, q_2, q_nil, q_cons, q_N, q_tup, q_lst, q_newT, q_newF, q_ifE, q_and, q_or, q_not, blR_bl, q_bl, q_val, q_dAnd, q_dOr, q_dNot, q_chain, q_call, q_callK, q_new, q_newK, q_cut, intR_int, q_partN, q_partS, q_src, q_lm, q_sNil, q_seq, q_ex, q_ret, q_retN, q_if, q_asg, q_par, q_par3, q_sub, q_gNm, q_for, forR_seq, forR_cell, forSeq_nil, q_comp, compR_seq, compR_cell, compSeq_nil, r_addI, r_addT, r_addL, r_subI, r_mulI, r_divI, r_modI, r_eqI, r_neI, r_eqS, r_neS, r_ltI, r_leI, r_gtI, r_geI, r_int, r_intB, r_abs, r_max, r_min, r_divmod, r_lenL, r_lenT, r_lenF, q_rng1, q_setAt, r_cutL, r_cutF, r_cutT, r_isN, r_isI, noX_ok, q_gTp2, q_gTp3, q_gTq2, q_gTq3, q_gSb, r_ixT, r_ixL, r_ixF, srcT, srcL, srcF, tr_bl, tr_int, wipeE, List.set_cons_zero, List.set_cons_succ, List.getElem?_cons_zero, List.getElem?_cons_succ, List.length_cons, List.length_nil, Nat.reduceAdd, Nat.reduceLeDiff, ↓reduceIte, Bool.false_eq_true, Bool.not_true, Bool.not_false, decide_true, decide_false, q_xnew, q_xnew0, mkX1, mkX2, pick0, pickA, pickK_some, pickDf, pickD_some, q_newSel, q_callSel, tryK_nx, tryK_rt, tryK_ex, q_tryX, cauK_ok, cauK_exc, q_caught, strRes_str, ownRes_bl, q_sm, strK_str, q_2F, q_NF, q_raise, excK_xv, q_rng2, at0, at1, at2, at3, at4, at5, at6, at7, at8, wp_ok, wp_exc, nxQ_nx, nxQ_rt, nxQ_ct, nxQ_bk, nxQ_ex, trQ_nx, trQ_ct, trQ_bk, trQ_rt, trQ_ex, enQ_rt, enQ_nx, enQ_ex]
      exact ⟨_, rfl, (P.app p1).mono (by omega), C7⟩
    · simp only [bnd_ok, bnd_exc, bnd_bad, at_ok, at_exc, at_bad, nxt_nx, nxt_rt, nxt_ex, nxt_bk, nxt_ct, nxt_bad, trn_nx, trn_ct, trn_bk, trn_rt, trn_ex, endF_rt, endF_nx, endF_ex, optR_some, getV_some, q_V, q_K, q_1, q_2, q_nil, q_cons, q_N, q_tup, q_lst, q_newT, q_newF, q_ifE, q_and, q_or, q_not, blR_bl, q_bl, q_val, q_dAnd, q_dOr, q_dNot, q_chain, q_call, q_callK, q_new, q_newK, q_cut, intR_int, q_partN, q_partS, q_src, q_lm, q_sNil, q_seq, q_ex, q_ret, q_retN, q_if, q_asg, q_par, q_par3, q_sub, q_gNm, q_for, forR_seq, forR_cell, forSeq_nil, q_comp, compR_seq, compR_cell, compSeq_nil, r_addI, r_addT, r_addL, r_subI, r_mulI, r_divI, r_modI, r_eqI, r_neI, r_eqS, r_neS, r_ltI, r_leI, r_gtI, r_geI, r_int, r_intB, r_abs, r_max, r_min, r_divmod, r_lenL, r_lenT, r_lenF, q_rng1, q_setAt, r_cutL, r_cutF, r_cutT, r_isN, r_isI, noX_ok, q_gTp2, q_gTp3, q_gTq2, q_gTq3, q_gSb, r_ixT, r_ixL, r_ixF, srcT, srcL, srcF, tr_bl, tr_int, wipeE, List.set_cons_zero, List.set_cons_succ, List.getElem?_cons_zero, List.getElem?_cons_succ, List.length_cons, List.length_nil, Nat.reduceAdd, Nat.reduceLeDiff, ↓reduceIte, Bool.false_eq_true, Bool.not_true, Bool.not_false, decide_true, decide_false, q_xnew, q_xnew0, mkX1, mkX2, pick0, pickA, pickK_some, pickDf, pickD_some, q_newSel, q_callSel, tryK_nx, tryK_rt, tryK_ex, q_tryX, cauK_ok, cauK_exc, q_caught, strRes_str, ownRes_bl, q_sm, strK_str, q_2F, q_NF, q_raise, excK_xv, q_rng2, at0, at1, at2, at3, at4, at5, at6, at7, at8, wp_ok, wp_exc, nxQ_nx, nxQ_rt, nxQ_ct, nxQ_bk, nxQ_ex, trQ_nx, trQ_ct, trQ_bk, trQ_rt, trQ_ex, enQ_rt, enQ_nx, enQ_ex]
      exact ⟨_, rfl, (p1.app P).mono (by omega), C7⟩
    · simp only [bnd_ok, bnd_exc, bnd_bad, at_ok, at_exc, at_bad, nxt_nx, nxt_rt, nxt_ex, nxt_bk, nxt_ct, nxt_bad, trn_nx, trn_ct, trn_bk, trn_rt, trn_ex, endF_rt, endF_nx, endF_ex, optR_some, getV_some, q_V, q_K, q_1, q_2, q_nil, q_cons, q_N, q_tup, q_lst, q_newT, q_newF, q_ifE, q_and, q_or, q_not, blR_bl, q_bl, q_val, q_dAnd, q_dOr, q_dNot, q_chain, q_call, q_callK, q_new, q_newK, q_cut, intR_int, q_partN, q_partS, q_src, q_lm, q_sNil, q_seq, q_ex, q_ret, q_retN, q_if, q_asg, q_par, q_par3, q_sub, q_gNm, q_for, forR_seq, forR_cell, forSeq_nil, q_comp, compR_seq, compR_cell, compSeq_nil, r_addI, r_addT, r_addL, r_subI, r_mulI, r_divI, r_modI, r_eqI, r_neI, r_eqS, r_neS, r_ltI, r_leI, r_gtI, r_geI, r_int, r_intB, r_abs, r_max, r_min, r_divmod, r_lenL, r_lenT, r_lenF, q_rng1, q_setAt, r_cutL, r_cutF, r_cutT, r_isN, r_isI, noX_ok, q_gTp2, q_gTp3, q_gTq2, q_gTq3, q_gSb, r_ixT, r_ixL, r_ixF, srcT, srcL, srcF, tr_bl, tr_int, wipeE, List.set_cons_zero, List.set_cons_succ, List.getElem?_cons_zero, List.getElem?_cons_succ, List.length_cons, List.length_nil, Nat.reduceAdd, Nat.reduceLeDiff, ↓reduceIte, Bool.false_eq_true, Bool.not_true, Bool.not_false, decide_true, decide_false, q_xnew, q_xnew0, mkX1, mkX2, pick0, pickA, pickK_some, pickDf, pickD_some, q_newSel, q_callSel, tryK_nx, tryK_rt, tryK_ex, q_tryX, cauK_ok, cauK_exc, q_caught, strRes_str, ownRes_bl, q_sm, strK_str, q_2F, q_NF, q_raise, excK_xv, q_rng2, at0, at1, at2, at3, at4, at5, at6, at7, at8, wp_ok, wp_exc, nxQ_nx, nxQ_rt, nxQ_ct, nxQ_bk, nxQ_ex, trQ_nx, trQ_ct, trQ_bk, trQ_rt, trQ_ex, enQ_rt, enQ_nx, enQ_ex]
      exact ⟨_, rfl, (P.app p2).mono (by omega), C7⟩
    · simp only [bnd_ok, bnd_exc, bnd_bad, at_ok, at_exc, at_bad, nxt_nx, nxt_rt, nxt_ex, nxt_bk, nxt_ct, nxt_bad, trn_nx, trn_ct, trn_bk, trn_rt, trn_ex, endF_rt, endF_nx, endF_ex, optR_some, getV_some, q_V, q_K, q_1, q_2, q_nil, q_cons, q_N, q_tup, q_lst, q_newT, q_newF, q_ifE, q_and, q_or, q_not, blR_bl, q_bl, q_val, q_dAnd, q_dOr, q_dNot, q_chain, q_call, q_callK, q_new, q_newK, q_cut, intR_int, q_partN, q_partS, q_src, q_lm, q_sNil, q_seq, q_ex, q_ret, q_retN, q_if, q_asg, q_par, q_par3, q_sub, q_gNm, q_for, forR_seq, forR_cell, forSeq_nil, q_comp, compR_seq, compR_cell, compSeq_nil, r_addI, r_addT, r_addL, r_subI, r_mulI, r_divI, r_modI, r_eqI, r_neI, r_eqS, r_neS, r_ltI, r_leI, r_gtI, r_geI, r_int, r_intB, r_abs, r_max, r_min, r_divmod, r_lenL, r_lenT, r_lenF, q_rng1, q_setAt, r_cutL, r_cutF, r_cutT, r_isN, r_isI, noX_ok, q_gTp2, q_gTp3, q_gTq2, q_gTq3, q_gSb, r_ixT, r_ixL, r_ixF, srcT, srcL, srcF, tr_bl, tr_int, wipeE, List.set_cons_zero, List.set_cons_succ, List.getElem?_cons_zero, List.getElem?_cons_succ, List.length_cons, List.length_nil, Nat.reduceAdd, Nat.reduceLeDiff, ↓reduceIte, Bool.false_eq_true, Bool.not_true, Bool.not_false, decide_true, decide_false, q_xnew, q_xnew0, mkX1, mkX2, pick0, pickA, pickK_some, pickDf, pickD_some, q_newSel, q_callSel, tryK_nx, tryK_rt, tryK_ex, q_tryX, cauK_ok, cauK_exc, q_caught, strRes_str, ownRes_bl, q_sm, strK_str, q_2F, q_NF, q_raise, excK_xv, q_rng2, at0, at1, at2, at3, at4, at5, at6, at7, at8, wp_ok, wp_exc, nxQ_nx, nxQ_rt, nxQ_ct, nxQ_bk, nxQ_ex, trQ_nx, trQ_ct, trQ_bk, trQ_rt, trQ_ex, enQ_rt, enQ_nx, enQ_ex]
      exact ⟨_, rfl, (p2.app P).mono (by omega), C7⟩
    · simp only [bnd_ok, bnd_exc, bnd_bad, at_ok, at_exc, at_bad, nxt_nx, nxt_rt, nxt_ex, nxt_bk, nxt_ct, nxt_bad, trn_nx, trn_ct, trn_bk, trn_rt, trn_ex, endF_rt, endF_nx, endF_ex, optR_some, getV_some, q_V, q_K, q_1, q_2, q_nil, q_cons, q_N, q_tup, q_lst, q_newT, q_newF, q_ifE, q_and, q_or, q_not, blR_bl, q_bl, q_val, q_dAnd, q_dOr, q_dNot, q_chain, q_call, q_callK, q_new, q_newK, q_cut, intR_int, q_partN, q_partS, q_src, q_lm, q_sNil, q_seq, q_ex, q_ret, q_retN, q_if, q_asg, q_par, q_par3, q_sub, q_gNm, q_for, forR_seq, forR_cell, forSeq_nil, q_comp, compR_seq, compR_cell, compSeq_nil, r_addI, r_addT, r_addL, r_subI, r_mulI, r_divI, r_modI, r_eqI, r_neI, r_eqS, r_neS, r_ltI, r_leI, r_gtI, r_geI, r_int, r_intB, r_abs, r_max, r_min, r_divmod, r_lenL, r_lenT, r_lenF, q_rng1, q_setAt, r_cutL, r_cutF, r_cutT, r_isN, r_isI, noX_ok, q_gTp2, q_gTp3, q_gTq2, q_gTq3, q_gSb, r_ixT, r_ixL, r_ixF, srcT, srcL, srcF, tr_bl, tr_int, wipeE, List.set_cons_zero, List.set_cons_succ, List.getElem?_cons_zero, List.getElem?_cons_succ, List.length_cons, List.length_nil, Nat.reduceAdd, Nat.reduceLeDiff, ↓reduceIte, Bool.false_eq_true, Bool.not_true, Bool.not_false, decide_true, decide_false, q_xnew, q_xnew0, mkX1, mkX2, pick0, pickA, pickK_some, pickDf, pickD_some, q_newSel, q_callSel, tryK_nx, tryK_rt, tryK_ex, q_tryX, cauK_ok, cauK_exc, q_caught, strRes_str, ownRes_bl, q_sm, strK_str, q_2F, q_NF, q_raise, excK_xv, q_rng2, at0, at1, at2, at3, at4, at5, at6, at7, at8, wp_ok, wp_exc, nxQ_nx, nxQ_rt, nxQ_ct, nxQ_bk, nxQ_ex, trQ_nx, trQ_ct, trQ_bk, trQ_rt, trQ_ex, enQ_rt, enQ_nx, enQ_ex]
      exact ⟨_, rfl, (P.app P).mono (by omega), C7⟩
  · have p0 : Pl 0 (⟨#[]⟩ : Str) := ⟨by decide, by decide⟩
    have WM := menu_pl.app (Wds.one p0)
    have hmn : ∀ z, oSplit false (.str menuT) (.str ⟨#[32]⟩) z = .ok (.lv (menu.map .str)) z := fun z => splitR (by decide +kernel)
    have hma : ∀ z, oAdd (.lv (menu.map .str)) (.lv [.str ⟨#[]⟩]) z = .ok (.lv ((menu ++ [(⟨#[]⟩ : Str)]).map .str)) z := fun z => addL (m := 84) (zs := [(⟨#[]⟩ : Str)]) menu_pl ((Wds.one p0).mono (by omega)) (by omega)
    have hml : ∀ z, bLen [.lv ((menu ++ [(⟨#[]⟩ : Str)]).map .str)] z = .ok (.int 22) z := fun z => by rw [r_lenL, List.length_map, menu_len]; rfl
    simp only [show decide ((7 : Int) = 3) = false from rfl, show decide ((7 : Int) = 4) = false from rfl, show decide ((7 : Int) = 5) = false from rfl, show decide ((7 : Int) = 6) = false from rfl, bnd_ok, bnd_exc, bnd_bad, at_ok, at_exc, at_bad, nxt_nx, nxt_rt, nxt_ex, nxt_bk, nxt_ct, nxt_bad, trn_nx, trn_ct, trn_bk, trn_rt, trn_ex, endF_rt, endF_nx, endF_ex, optR_some, getV_some, q_V, q_K, q_1, q_2, q_nil, q_cons, q_N, q_tup, q_lst, q_newT, q_newF, q_ifE, q_and, q_or, q_not, blR_bl, q_bl, q_val, q_dAnd, q_dOr, q_dNot, q_chain, q_call, q_callK, q_new, q_newK, q_cut, intR_int, q_partN, q_partS, q_src, q_lm, q_sNil, q_seq, q_ex, q_ret, q_retN, q_if, q_asg, q_par, q_par3, q_sub, q_gNm, q_for, forR_seq, forR_cell, forSeq_nil, q_comp, compR_seq, compR_cell, compSeq_nil, r_addI, r_addT, r_addL, r_subI, r_mulI, r_divI, r_modI, r_eqI, r_neI, r_eqS, r_neS, r_ltI, r_leI, r_gtI, r_geI, r_int, r_intB, r_abs, r_max, r_min, r_divmod, r_lenL, r_lenT, r_lenF, q_rng1, q_setAt, r_cutL, r_cutF, r_cutT, r_isN, r_isI, noX_ok, q_gTp2, q_gTp3, q_gTq2, q_gTq3, q_gSb, r_ixT, r_ixL, r_ixF, srcT, srcL, srcF, tr_bl, tr_int, wipeE, List.set_cons_zero, List.set_cons_succ, List.getElem?_cons_zero, List.getElem?_cons_succ, List.length_cons, List.length_nil, Nat.reduceAdd, Nat.reduceLeDiff, ↓reduceIte, Bool.false_eq_true, Bool.not_true, Bool.not_false, decide_true, decide_false, q_xnew, q_xnew0, mkX1, mkX2, pick0, pickA, pickK_some, pickDf, pickD_some, q_newSel, q_callSel, tryK_nx, tryK_rt, tryK_ex, q_tryX, cauK_ok, cauK_exc, q_caught, strRes_str, ownRes_bl, q_sm, strK_str, q_2F, q_NF, q_raise, excK_xv, q_rng2, at0, at1, at2, at3, at4, at5, at6, at7, at8, wp_ok, wp_exc, nxQ_nx, nxQ_rt, nxQ_ct, nxQ_bk, nxQ_ex, trQ_nx, trQ_ct, trQ_bk, trQ_rt, trQ_ex, enQ_rt, enQ_nx, enQ_ex]
    show WP _ _ _
    rw [show (⟨#[49, 32, 50, 32, 51, 32, 52, 32, 57, 32, 49, 48, 32, 48, 32, 48, 49, 32, 48, 57, 32, 45, 49, 32, 43, 50, 32, 107, 101, 101, 112, 32, 98, 97, 99, 107, 32, 111, 117, 116, 32, 107, 101, 101, 112, 115, 32, 66, 97, 99, 107, 32, 104, 111, 117, 115, 101, 32, 119, 97, 118, 101, 32, 100, 97, 121, 115, 32, 115, 105, 108, 101, 110, 116, 32, 100, 101, 99, 108, 105, 110, 101, 100]⟩ : Str) = menuT from rfl]
    simp only [hmn, hma, bnd_ok, bnd_exc, bnd_bad, at_ok, at_exc, at_bad, nxt_nx, nxt_rt, nxt_ex, nxt_bk, nxt_ct, nxt_bad, trn_nx, trn_ct, trn_bk, trn_rt, trn_ex, endF_rt, endF_nx, endF_ex, optR_some, getV_some, q_V, q_K, q_1, q_2, q_nil, q_cons, q_N, q_tup, q_lst, q_newT, q_newF, q_ifE, q_and, q_or, q_not, blR_bl, q_bl, q_val, q_dAnd, q_dOr, q_dNot, q_chain, q_call, q_callK, q_new, q_newK, q_cut, intR_int, q_partN, q_partS, q_src, q_lm, q_sNil, q_seq, q_ex, q_ret, q_retN, q_if, q_asg, q_par, q_par3, q_sub, q_gNm, q_for, forR_seq, forR_cell, forSeq_nil, q_comp, compR_seq, compR_cell, compSeq_nil, r_addI, r_addT, r_subI, r_mulI, r_divI, r_modI, r_eqI, r_neI, r_eqS, r_neS, r_ltI, r_leI, r_gtI, r_geI, r_int, r_intB, r_abs, r_max, r_min, r_divmod, r_lenT, r_lenF, q_rng1, q_setAt, r_cutL, r_cutF, r_cutT, r_isN, r_isI, noX_ok, q_gTp2, q_gTp3, q_gTq2, q_gTq3, q_gSb, r_ixT, r_ixL, r_ixF, srcT, srcL, srcF, tr_bl, tr_int, wipeE, List.set_cons_zero, List.set_cons_succ, List.getElem?_cons_zero, List.getElem?_cons_succ, List.length_cons, List.length_nil, Nat.reduceAdd, Nat.reduceLeDiff, ↓reduceIte, Bool.false_eq_true, Bool.not_true, Bool.not_false, decide_true, decide_false, q_xnew, q_xnew0, mkX1, mkX2, pick0, pickA, pickK_some, pickDf, pickD_some, q_newSel, q_callSel, tryK_nx, tryK_rt, tryK_ex, q_tryX, cauK_ok, cauK_exc, q_caught, strRes_str, ownRes_bl, q_sm, strK_str, q_2F, q_NF, q_raise, excK_xv, q_rng2, at0, at1, at2, at3, at4, at5, at6, at7, at8, wp_ok, wp_exc, nxQ_nx, nxQ_rt, nxQ_ct, nxQ_bk, nxQ_ex, trQ_nx, trQ_ct, trQ_bk, trQ_rt, trQ_ex, enQ_rt, enQ_nx, enQ_ex, cutC hc6, hml]
    repeat (with_reducible first | apply wp_nxt | apply wp_at | apply wp_bnd | apply wp_trn)
    refine (pk C6 (by decide) (by decide)).to ?_
    rintro _ s7 ⟨d7, rfl, j0, j1, C7, _, f7⟩
    have hc7 : s7[i]? = some (.lst (ys.map PV.str)) := by rw [f7 i ne]; exact hc6
    obtain ⟨y7, h7, m7⟩ := atN (xs := menu ++ [(⟨#[]⟩ : Str)]) (d := d7) j0 (by rw [menu_len]; exact j1)
    have k7 : L2.atI ((menu ++ [(⟨#[]⟩ : Str)]).map PV.str) d7 = some (.str y7) := atI_map h7
    have W7 := Wds.one (WM.mem m7)
    have W9 := W1.app W7
    have add1 : ∀ z, oAdd (.lv ((cutL ys none (some d5)).map .str)) (.lv [.str y7]) z = .ok (.lv ((cutL ys none (some d5) ++ [y7]).map .str)) z := fun z => addL (m := m + 1 + 86) (zs := [y7]) (W1.mono (by omega)) (W7.mono (by omega)) (by omega)
    simp only [bnd_ok, bnd_exc, bnd_bad, at_ok, at_exc, at_bad, nxt_nx, nxt_rt, nxt_ex, nxt_bk, nxt_ct, nxt_bad, trn_nx, trn_ct, trn_bk, trn_rt, trn_ex, endF_rt, endF_nx, endF_ex, optR_some, getV_some, q_V, q_K, q_1, q_2, q_nil, q_cons, q_N, q_tup, q_lst, q_newT, q_newF, q_ifE, q_and, q_or, q_not, blR_bl, q_bl, q_val, q_dAnd, q_dOr, q_dNot, q_chain, q_call, q_callK, q_new, q_newK, q_cut, intR_int, q_partN, q_partS, q_src, q_lm, q_sNil, q_seq, q_ex, q_ret, q_retN, q_if, q_asg, q_par, q_par3, q_sub, q_gNm, q_for, forR_seq, forR_cell, forSeq_nil, q_comp, compR_seq, compR_cell, compSeq_nil, r_addI, r_addT, r_subI, r_mulI, r_divI, r_modI, r_eqI, r_neI, r_eqS, r_neS, r_ltI, r_leI, r_gtI, r_geI, r_int, r_intB, r_abs, r_max, r_min, r_divmod, r_lenT, r_lenF, q_rng1, q_setAt, r_cutL, r_cutF, r_cutT, r_isN, r_isI, noX_ok, q_gTp2, q_gTp3, q_gTq2, q_gTq3, q_gSb, r_ixT, r_ixL, r_ixF, srcT, srcL, srcF, tr_bl, tr_int, wipeE, List.set_cons_zero, List.set_cons_succ, List.getElem?_cons_zero, List.getElem?_cons_succ, List.length_cons, List.length_nil, Nat.reduceAdd, Nat.reduceLeDiff, ↓reduceIte, Bool.false_eq_true, Bool.not_true, Bool.not_false, decide_true, decide_false, q_xnew, q_xnew0, mkX1, mkX2, pick0, pickA, pickK_some, pickDf, pickD_some, q_newSel, q_callSel, tryK_nx, tryK_rt, tryK_ex, q_tryX, cauK_ok, cauK_exc, q_caught, strRes_str, ownRes_bl, q_sm, strK_str, q_2F, q_NF, q_raise, excK_xv, q_rng2, at0, at1, at2, at3, at4, at5, at6, at7, at8, wp_ok, wp_exc, nxQ_nx, nxQ_rt, nxQ_ct, nxQ_bk, nxQ_ex, trQ_nx, trQ_ct, trQ_bk, trQ_rt, trQ_ex, enQ_rt, enQ_nx, enQ_ex, k7, cutC hc7, add1, addL W9 (W2.mono (by omega)) (by omega), joinR (W9.app W2) (by omega)]
    exact ⟨_, rfl, (W9.app W2).join.mono (by omega), C7⟩
end
end Lw
set_option maxRecDepth 100000
set_option maxHeartbeats 0
namespace Lw
open PySem OL TL
section
variable {k n : Nat} {x : Str} {st : Sto} {F : CallT}
theorem Prs.set {i : Nat} {c : Cell} (C : Prs n st) (h : i ≠ n) : Prs n (st.set i c) := C.get (List.getElem?_set_ne h)
def wdV : List PV := [.str ⟨#[107, 101, 101, 112]⟩, .str ⟨#[98, 97, 99, 107]⟩, .str ⟨#[111, 117, 116]⟩]
theorem wd_at {i : Int} (h0 : 0 ≤ i) (h1 : i < 3) : ∃ s, L2.atI wdV i = some (.str s) ∧ s ∈ wds := by
  have : i = 0 ∨ i = 1 ∨ i = 2 := by omega
  rcases this with rfl | rfl | rfl
  · exact ⟨_, at0, by simp [wds]⟩
  · exact ⟨_, at1, by simp [wds]⟩
  · exact ⟨_, at2, by simp [wds]⟩
theorem r_append {i : Nat} {xs : List PV} {y : PV} (h : st[i]? = some (.lst xs)) (hl : xs.length < 16777216) : oAppend (.obj i) y st = .ok .non (st.set i (.lst (xs ++ [y]))) := by simp only [oAppend, h, if_pos hl]
theorem rules6 (C : Prs n st) : WP (callK T2 (k + 2) 6 [.obj n, .int 9] st) (fun v z => ∃ w d s t, v = .tup (ruV w d s t) ∧ Ru w d s t ∧ Prs n z) NX := by
  refine wp_go (fi := ⟨s6.ps, s6.N, b6⟩) rfl rfl rfl ?_
  have hS : startE s6.N.length [.obj n, .int 9] = [some (.obj n), some (.int 9), none, none] := rfl
  have hw : ([PV.str ⟨#[107, 101, 101, 112]⟩, PV.str ⟨#[98, 97, 99, 107]⟩, PV.str ⟨#[111, 117, 116]⟩] : List PV) = wdV := rfl
  have hwl : wdV.length ≤ 16777216 := by decide
  simp only [hS, b6, bnd_ok, bnd_exc, bnd_bad, at_ok, at_exc, at_bad, nxt_nx, nxt_rt, nxt_ex, nxt_bk, nxt_ct, nxt_bad, trn_nx, trn_ct, trn_bk, trn_rt, trn_ex, endF_rt, endF_nx, endF_ex, optR_some, getV_some, q_V, q_K, q_1, q_2, q_nil, q_cons, q_N, q_tup, q_lst, q_newT, q_newF, q_ifE, q_and, q_or, q_not, blR_bl, q_bl, q_val, q_dAnd, q_dOr, q_dNot, q_chain, q_call, q_callK, q_new, q_newK, q_cut, intR_int, q_partN, q_partS, q_src, q_lm, q_sNil, q_seq, q_ex, q_ret, q_retN, q_if, q_asg, q_par, q_par3, q_sub, q_gNm, q_for, forR_seq, forR_cell, forSeq_nil, q_comp, compR_seq, compR_cell, compSeq_nil, r_addI, r_addT, r_addL, r_subI, r_mulI, r_divI, r_modI, r_eqI, r_neI, r_eqS, r_neS, r_ltI, r_leI, r_gtI, r_geI, r_int, r_intB, r_abs, r_max, r_min, r_divmod, r_lenL, r_lenT, r_lenF, q_rng1, q_setAt, r_cutL, r_cutF, r_cutT, r_isN, r_isI, noX_ok, q_gTp2, q_gTp3, q_gTq2, q_gTq3, q_gSb, r_ixT, r_ixL, r_ixF, srcT, srcL, srcF, tr_bl, tr_int, wipeE, List.set_cons_zero, List.set_cons_succ, List.getElem?_cons_zero, List.getElem?_cons_succ, List.length_cons, List.length_nil, Nat.reduceAdd, Nat.reduceLeDiff, ↓reduceIte, Bool.false_eq_true, Bool.not_true, Bool.not_false, decide_true, decide_false, q_xnew, q_xnew0, mkX1, mkX2, pick0, pickA, pickK_some, pickDf, pickD_some, q_newSel, q_callSel, tryK_nx, tryK_rt, tryK_ex, q_tryX, cauK_ok, cauK_exc, q_caught, strRes_str, ownRes_bl, q_sm, strK_str, q_2F, q_NF, q_raise, excK_xv, q_rng2, at0, at1, at2, at3, at4, at5, at6, at7, at8, wp_ok, wp_exc, nxQ_nx, nxQ_rt, nxQ_ct, nxQ_bk, nxQ_ex, trQ_nx, trQ_ct, trQ_bk, trQ_rt, trQ_ex, enQ_rt, enQ_nx, enQ_ex, hw, hwl]
  repeat (with_reducible first | apply wp_nxt | apply wp_at | apply wp_bnd | apply wp_trn)
  refine (pk C (by decide) (by decide)).to ?_
  rintro _ z0 ⟨d0, rfl, a0, b0, C0, _, _⟩
  simp only [bnd_ok, bnd_exc, bnd_bad, at_ok, at_exc, at_bad, nxt_nx, nxt_rt, nxt_ex, nxt_bk, nxt_ct, nxt_bad, trn_nx, trn_ct, trn_bk, trn_rt, trn_ex, endF_rt, endF_nx, endF_ex, optR_some, getV_some, q_V, q_K, q_1, q_2, q_nil, q_cons, q_N, q_tup, q_lst, q_newT, q_newF, q_ifE, q_and, q_or, q_not, blR_bl, q_bl, q_val, q_dAnd, q_dOr, q_dNot, q_chain, q_call, q_callK, q_new, q_newK, q_cut, intR_int, q_partN, q_partS, q_src, q_lm, q_sNil, q_seq, q_ex, q_ret, q_retN, q_if, q_asg, q_par, q_par3, q_sub, q_gNm, q_for, forR_seq, forR_cell, forSeq_nil, q_comp, compR_seq, compR_cell, compSeq_nil, r_addI, r_addT, r_addL, r_subI, r_mulI, r_divI, r_modI, r_eqI, r_neI, r_eqS, r_neS, r_ltI, r_leI, r_gtI, r_geI, r_int, r_intB, r_abs, r_max, r_min, r_divmod, r_lenL, r_lenT, r_lenF, q_rng1, q_setAt, r_cutL, r_cutF, r_cutT, r_isN, r_isI, noX_ok, q_gTp2, q_gTp3, q_gTq2, q_gTq3, q_gSb, r_ixT, r_ixL, r_ixF, srcT, srcL, srcF, tr_bl, tr_int, wipeE, List.set_cons_zero, List.set_cons_succ, List.getElem?_cons_zero, List.getElem?_cons_succ, List.length_cons, List.length_nil, Nat.reduceAdd, Nat.reduceLeDiff, ↓reduceIte, Bool.false_eq_true, Bool.not_true, Bool.not_false, decide_true, decide_false, q_xnew, q_xnew0, mkX1, mkX2, pick0, pickA, pickK_some, pickDf, pickD_some, q_newSel, q_callSel, tryK_nx, tryK_rt, tryK_ex, q_tryX, cauK_ok, cauK_exc, q_caught, strRes_str, ownRes_bl, q_sm, strK_str, q_2F, q_NF, q_raise, excK_xv, q_rng2, at0, at1, at2, at3, at4, at5, at6, at7, at8, wp_ok, wp_exc, nxQ_nx, nxQ_rt, nxQ_ct, nxQ_bk, nxQ_ex, trQ_nx, trQ_ct, trQ_bk, trQ_rt, trQ_ex, enQ_rt, enQ_nx, enQ_ex]
  repeat (with_reducible first | apply wp_nxt | apply wp_at | apply wp_bnd | apply wp_trn)
  refine (pk C0 (by decide) (by decide)).to ?_
  rintro _ z1 ⟨d1, rfl, a1, b1, C1, _, _⟩
  have g1 : (z1 ++ [Cell.lst [.int (1 + d0), .int (1 + d1)]])[z1.length]? = some (.lst [.int (1 + d0), .int (1 + d1)]) := app_at
  have ne : z1.length ≠ n := by have := C1.lt; omega
  have C2 : Prs n (z1 ++ [.lst [.int (1 + d0), .int (1 + d1)]]) := C1.app
  simp only [bnd_ok, bnd_exc, bnd_bad, at_ok, at_exc, at_bad, nxt_nx, nxt_rt, nxt_ex, nxt_bk, nxt_ct, nxt_bad, trn_nx, trn_ct, trn_bk, trn_rt, trn_ex, endF_rt, endF_nx, endF_ex, optR_some, getV_some, q_V, q_K, q_1, q_2, q_nil, q_cons, q_N, q_tup, q_lst, q_newT, q_newF, q_ifE, q_and, q_or, q_not, blR_bl, q_bl, q_val, q_dAnd, q_dOr, q_dNot, q_chain, q_call, q_callK, q_new, q_newK, q_cut, intR_int, q_partN, q_partS, q_src, q_lm, q_sNil, q_seq, q_ex, q_ret, q_retN, q_if, q_asg, q_par, q_par3, q_sub, q_gNm, q_for, forR_seq, forR_cell, forSeq_nil, q_comp, compR_seq, compR_cell, compSeq_nil, r_addI, r_addT, r_addL, r_subI, r_mulI, r_divI, r_modI, r_eqI, r_neI, r_eqS, r_neS, r_ltI, r_leI, r_gtI, r_geI, r_int, r_intB, r_abs, r_max, r_min, r_divmod, r_lenL, r_lenT, r_lenF, q_rng1, q_setAt, r_cutL, r_cutF, r_cutT, r_isN, r_isI, noX_ok, q_gTp2, q_gTp3, q_gTq2, q_gTq3, q_gSb, r_ixT, r_ixL, r_ixF, srcT, srcL, srcF, tr_bl, tr_int, wipeE, List.set_cons_zero, List.set_cons_succ, List.getElem?_cons_zero, List.getElem?_cons_succ, List.length_cons, List.length_nil, Nat.reduceAdd, Nat.reduceLeDiff, ↓reduceIte, Bool.false_eq_true, Bool.not_true, Bool.not_false, decide_true, decide_false, q_xnew, q_xnew0, mkX1, mkX2, pick0, pickA, pickK_some, pickDf, pickD_some, q_newSel, q_callSel, tryK_nx, tryK_rt, tryK_ex, q_tryX, cauK_ok, cauK_exc, q_caught, strRes_str, ownRes_bl, q_sm, strK_str, q_2F, q_NF, q_raise, excK_xv, q_rng2, at0, at1, at2, at3, at4, at5, at6, at7, at8, wp_ok, wp_exc, nxQ_nx, nxQ_rt, nxQ_ct, nxQ_bk, nxQ_ex, trQ_nx, trQ_ct, trQ_bk, trQ_rt, trQ_ex, enQ_rt, enQ_nx, enQ_ex, lsO g1]
  repeat (with_reducible first | apply wp_nxt | apply wp_at | apply wp_bnd | apply wp_trn)
  refine (pk C2 (by decide) (by decide)).to ?_
  rintro _ z2 ⟨d2, rfl, a2, b2, C3, _, o2⟩
  have g2 : z2[z1.length]? = some (.lst [.int (1 + d0), .int (1 + d1)]) := by rw [o2 _ ne, g1]
  obtain ⟨s, hs1, hs2⟩ := wd_at a2 b2
  have g3 : (z2.set z1.length (.lst [.int (1 + d0), .int (1 + d1), .str s]))[z1.length]? = some (.lst [.int (1 + d0), .int (1 + d1), .str s]) := set_at g2
  have ap : oAppend (.obj z1.length) (.str s) z2 = .ok .non (z2.set z1.length (.lst [.int (1 + d0), .int (1 + d1), .str s])) := r_append g2 (by simp)
  simp only [bnd_ok, bnd_exc, bnd_bad, at_ok, at_exc, at_bad, nxt_nx, nxt_rt, nxt_ex, nxt_bk, nxt_ct, nxt_bad, trn_nx, trn_ct, trn_bk, trn_rt, trn_ex, endF_rt, endF_nx, endF_ex, optR_some, getV_some, q_V, q_K, q_1, q_2, q_nil, q_cons, q_N, q_tup, q_lst, q_newT, q_newF, q_ifE, q_and, q_or, q_not, blR_bl, q_bl, q_val, q_dAnd, q_dOr, q_dNot, q_chain, q_call, q_callK, q_new, q_newK, q_cut, intR_int, q_partN, q_partS, q_src, q_lm, q_sNil, q_seq, q_ex, q_ret, q_retN, q_if, q_asg, q_par, q_par3, q_sub, q_gNm, q_for, forR_seq, forR_cell, forSeq_nil, q_comp, compR_seq, compR_cell, compSeq_nil, r_addI, r_addT, r_addL, r_subI, r_mulI, r_divI, r_modI, r_eqI, r_neI, r_eqS, r_neS, r_ltI, r_leI, r_gtI, r_geI, r_int, r_intB, r_abs, r_max, r_min, r_divmod, r_lenL, r_lenT, r_lenF, q_rng1, q_setAt, r_cutL, r_cutF, r_cutT, r_isN, r_isI, noX_ok, q_gTp2, q_gTp3, q_gTq2, q_gTq3, q_gSb, r_ixT, r_ixL, r_ixF, srcT, srcL, srcF, tr_bl, tr_int, wipeE, List.set_cons_zero, List.set_cons_succ, List.getElem?_cons_zero, List.getElem?_cons_succ, List.length_cons, List.length_nil, Nat.reduceAdd, Nat.reduceLeDiff, ↓reduceIte, Bool.false_eq_true, Bool.not_true, Bool.not_false, decide_true, decide_false, q_xnew, q_xnew0, mkX1, mkX2, pick0, pickA, pickK_some, pickDf, pickD_some, q_newSel, q_callSel, tryK_nx, tryK_rt, tryK_ex, q_tryX, cauK_ok, cauK_exc, q_caught, strRes_str, ownRes_bl, q_sm, strK_str, q_2F, q_NF, q_raise, excK_xv, q_rng2, at0, at1, at2, at3, at4, at5, at6, at7, at8, wp_ok, wp_exc, nxQ_nx, nxQ_rt, nxQ_ct, nxQ_bk, nxQ_ex, trQ_nx, trQ_ct, trQ_bk, trQ_rt, trQ_ex, enQ_rt, enQ_nx, enQ_ex, hs1, ap, r_ixO g3 (i := 0) rfl, r_ixO g3 (i := 1) rfl, r_ixO g3 (i := 2) rfl]
  repeat (with_reducible first | apply wp_nxt | apply wp_at | apply wp_bnd | apply wp_trn)
  refine (pk (C3.set (c := .lst [.int (1 + d0), .int (1 + d1), .str s]) ne) (by decide) (by decide)).to ?_
  rintro _ z3 ⟨d3, rfl, a3, b3, C4, _, _⟩
  obtain ⟨t, ht1, ht2⟩ := wd_at a3 b3
  simp only [bnd_ok, bnd_exc, bnd_bad, at_ok, at_exc, at_bad, nxt_nx, nxt_rt, nxt_ex, nxt_bk, nxt_ct, nxt_bad, trn_nx, trn_ct, trn_bk, trn_rt, trn_ex, endF_rt, endF_nx, endF_ex, optR_some, getV_some, q_V, q_K, q_1, q_2, q_nil, q_cons, q_N, q_tup, q_lst, q_newT, q_newF, q_ifE, q_and, q_or, q_not, blR_bl, q_bl, q_val, q_dAnd, q_dOr, q_dNot, q_chain, q_call, q_callK, q_new, q_newK, q_cut, intR_int, q_partN, q_partS, q_src, q_lm, q_sNil, q_seq, q_ex, q_ret, q_retN, q_if, q_asg, q_par, q_par3, q_sub, q_gNm, q_for, forR_seq, forR_cell, forSeq_nil, q_comp, compR_seq, compR_cell, compSeq_nil, r_addI, r_addT, r_addL, r_subI, r_mulI, r_divI, r_modI, r_eqI, r_neI, r_eqS, r_neS, r_ltI, r_leI, r_gtI, r_geI, r_int, r_intB, r_abs, r_max, r_min, r_divmod, r_lenL, r_lenT, r_lenF, q_rng1, q_setAt, r_cutL, r_cutF, r_cutT, r_isN, r_isI, noX_ok, q_gTp2, q_gTp3, q_gTq2, q_gTq3, q_gSb, r_ixT, r_ixL, r_ixF, srcT, srcL, srcF, tr_bl, tr_int, wipeE, List.set_cons_zero, List.set_cons_succ, List.getElem?_cons_zero, List.getElem?_cons_succ, List.length_cons, List.length_nil, Nat.reduceAdd, Nat.reduceLeDiff, ↓reduceIte, Bool.false_eq_true, Bool.not_true, Bool.not_false, decide_true, decide_false, q_xnew, q_xnew0, mkX1, mkX2, pick0, pickA, pickK_some, pickDf, pickD_some, q_newSel, q_callSel, tryK_nx, tryK_rt, tryK_ex, q_tryX, cauK_ok, cauK_exc, q_caught, strRes_str, ownRes_bl, q_sm, strK_str, q_2F, q_NF, q_raise, excK_xv, q_rng2, at0, at1, at2, at3, at4, at5, at6, at7, at8, wp_ok, wp_exc, nxQ_nx, nxQ_rt, nxQ_ct, nxQ_bk, nxQ_ex, trQ_nx, trQ_ct, trQ_bk, trQ_rt, trQ_ex, enQ_rt, enQ_nx, enQ_ex, ht1]
  exact ⟨1 + d0, 1 + d1, s, t, rfl, ⟨by omega, by omega, hs2, ht2⟩, C4⟩
def bnd4 : Nat → Nat
  | 4 => 100
  | 3 => 600
  | 2 => 2600
  | 1 => 10600
  | _ => 42600
theorem right13 (C : Prs n st) : WP (callK T2 (k + 7) 13 [.obj n] st) (fun v z => v = .bl true ∧ Prs n z) NX := by
  refine wp_go (fi := ⟨s13.ps, s13.N, b13⟩) rfl rfl rfl ?_
  have hS : startE s13.N.length [.obj n] = [some (.obj n), none, none] := rfl
  have r4 : ∀ z : Sto, rngR (.int 4) z = .ok (.seq (OL.intsFrom 0 4)) z := fun z => rngR_nat (n := 4) (by decide)
  simp only [hS, b13, bnd_ok, bnd_exc, bnd_bad, at_ok, at_exc, at_bad, nxt_nx, nxt_rt, nxt_ex, nxt_bk, nxt_ct, nxt_bad, trn_nx, trn_ct, trn_bk, trn_rt, trn_ex, endF_rt, endF_nx, endF_ex, optR_some, getV_some, q_V, q_K, q_1, q_2, q_nil, q_cons, q_N, q_tup, q_lst, q_newT, q_newF, q_ifE, q_and, q_or, q_not, blR_bl, q_bl, q_val, q_dAnd, q_dOr, q_dNot, q_chain, q_call, q_callK, q_new, q_newK, q_cut, intR_int, q_partN, q_partS, q_src, q_lm, q_sNil, q_seq, q_ex, q_ret, q_retN, q_if, q_asg, q_par, q_par3, q_sub, q_gNm, q_for, forR_seq, forR_cell, forSeq_nil, q_comp, compR_seq, compR_cell, compSeq_nil, r_addI, r_addT, r_addL, r_subI, r_mulI, r_divI, r_modI, r_eqI, r_neI, r_eqS, r_neS, r_ltI, r_leI, r_gtI, r_geI, r_int, r_intB, r_abs, r_max, r_min, r_divmod, r_lenL, r_lenT, r_lenF, q_rng1, q_setAt, r_cutL, r_cutF, r_cutT, r_isN, r_isI, noX_ok, q_gTp2, q_gTp3, q_gTq2, q_gTq3, q_gSb, r_ixT, r_ixL, r_ixF, srcT, srcL, srcF, tr_bl, tr_int, wipeE, List.set_cons_zero, List.set_cons_succ, List.getElem?_cons_zero, List.getElem?_cons_succ, List.length_cons, List.length_nil, Nat.reduceAdd, Nat.reduceLeDiff, ↓reduceIte, Bool.false_eq_true, Bool.not_true, Bool.not_false, decide_true, decide_false, q_xnew, q_xnew0, mkX1, mkX2, pick0, pickA, pickK_some, pickDf, pickD_some, q_newSel, q_callSel, tryK_nx, tryK_rt, tryK_ex, q_tryX, cauK_ok, cauK_exc, q_caught, strRes_str, ownRes_bl, q_sm, strK_str, q_2F, q_NF, q_raise, excK_xv, q_rng2, at0, at1, at2, at3, at4, at5, at6, at7, at8, wp_ok, wp_exc, nxQ_nx, nxQ_rt, nxQ_ct, nxQ_bk, nxQ_ex, trQ_nx, trQ_ct, trQ_bk, trQ_rt, trQ_ex, enQ_rt, enQ_nx, enQ_ex]
  repeat (with_reducible first | apply wp_nxt | apply wp_at | apply wp_bnd | apply wp_trn)
  refine (rules6 (k := k + 4) C).to ?_
  rintro _ z ⟨w, d, s, t, rfl, r, C1⟩
  have P := htx_pl r
  simp only [bnd_ok, bnd_exc, bnd_bad, at_ok, at_exc, at_bad, nxt_nx, nxt_rt, nxt_ex, nxt_bk, nxt_ct, nxt_bad, trn_nx, trn_ct, trn_bk, trn_rt, trn_ex, endF_rt, endF_nx, endF_ex, optR_some, getV_some, q_V, q_K, q_1, q_2, q_nil, q_cons, q_N, q_tup, q_lst, q_newT, q_newF, q_ifE, q_and, q_or, q_not, blR_bl, q_bl, q_val, q_dAnd, q_dOr, q_dNot, q_chain, q_call, q_callK, q_new, q_newK, q_cut, intR_int, q_partN, q_partS, q_src, q_lm, q_sNil, q_seq, q_ex, q_ret, q_retN, q_if, q_asg, q_par, q_par3, q_sub, q_gNm, q_for, forR_seq, forR_cell, forSeq_nil, q_comp, compR_seq, compR_cell, compSeq_nil, r_addI, r_addT, r_addL, r_subI, r_mulI, r_divI, r_modI, r_eqI, r_neI, r_eqS, r_neS, r_ltI, r_leI, r_gtI, r_geI, r_int, r_intB, r_abs, r_max, r_min, r_divmod, r_lenL, r_lenT, r_lenF, q_rng1, q_setAt, r_cutL, r_cutF, r_cutT, r_isN, r_isI, noX_ok, q_gTp2, q_gTp3, q_gTq2, q_gTq3, q_gSb, r_ixT, r_ixL, r_ixF, srcT, srcL, srcF, tr_bl, tr_int, wipeE, List.set_cons_zero, List.set_cons_succ, List.getElem?_cons_zero, List.getElem?_cons_succ, List.length_cons, List.length_nil, Nat.reduceAdd, Nat.reduceLeDiff, ↓reduceIte, Bool.false_eq_true, Bool.not_true, Bool.not_false, decide_true, decide_false, q_xnew, q_xnew0, mkX1, mkX2, pick0, pickA, pickK_some, pickDf, pickD_some, q_newSel, q_callSel, tryK_nx, tryK_rt, tryK_ex, q_tryX, cauK_ok, cauK_exc, q_caught, strRes_str, ownRes_bl, q_sm, strK_str, q_2F, q_NF, q_raise, excK_xv, q_rng2, at0, at1, at2, at3, at4, at5, at6, at7, at8, wp_ok, wp_exc, nxQ_nx, nxQ_rt, nxQ_ct, nxQ_bk, nxQ_ex, trQ_nx, trQ_ct, trQ_bk, trQ_rt, trQ_ex, enQ_rt, enQ_nx, enQ_ex, text7 (X := .tup (ruV w d s t)) (.inl rfl) r.nw r.nd (wd_len r.s) (wd_len r.t), reads12 (P.mono (by decide)), r4]
  repeat (with_reducible first | apply wp_nxt | apply wp_at | apply wp_bnd | apply wp_trn)
  refine wp_forSeq (fun ys e z => ys.length ≤ 4 ∧ ∃ x x2 m, e = [some (.obj n), some (.str x), x2] ∧ Pl m x ∧ m ≤ bnd4 ys.length ∧ Prs n z) ?_ ?_ (OL.intsFrom 0 4) _ _ ⟨by decide, _, none, 100, rfl, P, by decide, C1⟩
  · rintro y ys e z ⟨hl, x, x2, m, rfl, Px, hm, Cz⟩
    have hm2 : m ≤ 10600 ∧ 4 * m + 200 ≤ bnd4 ys.length ∧ ys.length ≤ 4 ∧ 4 * m + 200 ≤ 100000 := by
      rw [List.length_cons] at hm hl
      match h : ys.length, hm, hl with
      | 0, hm, _ => have : m ≤ 10600 := hm; exact ⟨this, by show _ ≤ 42600; omega, by omega, by omega⟩
      | 1, hm, _ => have : m ≤ 2600 := hm; exact ⟨by omega, by show _ ≤ 10600; omega, by omega, by omega⟩
      | 2, hm, _ => have : m ≤ 600 := hm; exact ⟨by omega, by show _ ≤ 2600; omega, by omega, by omega⟩
      | 3, hm, _ => have : m ≤ 100 := hm; exact ⟨by omega, by show _ ≤ 600; omega, by omega, by omega⟩
      | j + 4, _, hl => omega
    simp only [bnd_ok, bnd_exc, bnd_bad, at_ok, at_exc, at_bad, nxt_nx, nxt_rt, nxt_ex, nxt_bk, nxt_ct, nxt_bad, trn_nx, trn_ct, trn_bk, trn_rt, trn_ex, endF_rt, endF_nx, endF_ex, optR_some, getV_some, q_V, q_K, q_1, q_2, q_nil, q_cons, q_N, q_tup, q_lst, q_newT, q_newF, q_ifE, q_and, q_or, q_not, blR_bl, q_bl, q_val, q_dAnd, q_dOr, q_dNot, q_chain, q_call, q_callK, q_new, q_newK, q_cut, intR_int, q_partN, q_partS, q_src, q_lm, q_sNil, q_seq, q_ex, q_ret, q_retN, q_if, q_asg, q_par, q_par3, q_sub, q_gNm, q_for, forR_seq, forR_cell, forSeq_nil, q_comp, compR_seq, compR_cell, compSeq_nil, r_addI, r_addT, r_addL, r_subI, r_mulI, r_divI, r_modI, r_eqI, r_neI, r_eqS, r_neS, r_ltI, r_leI, r_gtI, r_geI, r_int, r_intB, r_abs, r_max, r_min, r_divmod, r_lenL, r_lenT, r_lenF, q_rng1, q_setAt, r_cutL, r_cutF, r_cutT, r_isN, r_isI, noX_ok, q_gTp2, q_gTp3, q_gTq2, q_gTq3, q_gSb, r_ixT, r_ixL, r_ixF, srcT, srcL, srcF, tr_bl, tr_int, wipeE, List.set_cons_zero, List.set_cons_succ, List.getElem?_cons_zero, List.getElem?_cons_succ, List.length_cons, List.length_nil, Nat.reduceAdd, Nat.reduceLeDiff, ↓reduceIte, Bool.false_eq_true, Bool.not_true, Bool.not_false, decide_true, decide_false, q_xnew, q_xnew0, mkX1, mkX2, pick0, pickA, pickK_some, pickDf, pickD_some, q_newSel, q_callSel, tryK_nx, tryK_rt, tryK_ex, q_tryX, cauK_ok, cauK_exc, q_caught, strRes_str, ownRes_bl, q_sm, strK_str, q_2F, q_NF, q_raise, excK_xv, q_rng2, at0, at1, at2, at3, at4, at5, at6, at7, at8, wp_ok, wp_exc, nxQ_nx, nxQ_rt, nxQ_ct, nxQ_bk, nxQ_ex, trQ_nx, trQ_ct, trQ_bk, trQ_rt, trQ_ex, enQ_rt, enQ_nx, enQ_ex]
    repeat (with_reducible first | apply wp_nxt | apply wp_at | apply wp_bnd | apply wp_trn)
    refine (bent11 (k := k + 4) Cz Px (by omega)).to ?_
    rintro _ z2 ⟨y2, rfl, Py, C2⟩
    simp only [bnd_ok, bnd_exc, bnd_bad, at_ok, at_exc, at_bad, nxt_nx, nxt_rt, nxt_ex, nxt_bk, nxt_ct, nxt_bad, trn_nx, trn_ct, trn_bk, trn_rt, trn_ex, endF_rt, endF_nx, endF_ex, optR_some, getV_some, q_V, q_K, q_1, q_2, q_nil, q_cons, q_N, q_tup, q_lst, q_newT, q_newF, q_ifE, q_and, q_or, q_not, blR_bl, q_bl, q_val, q_dAnd, q_dOr, q_dNot, q_chain, q_call, q_callK, q_new, q_newK, q_cut, intR_int, q_partN, q_partS, q_src, q_lm, q_sNil, q_seq, q_ex, q_ret, q_retN, q_if, q_asg, q_par, q_par3, q_sub, q_gNm, q_for, forR_seq, forR_cell, forSeq_nil, q_comp, compR_seq, compR_cell, compSeq_nil, r_addI, r_addT, r_addL, r_subI, r_mulI, r_divI, r_modI, r_eqI, r_neI, r_eqS, r_neS, r_ltI, r_leI, r_gtI, r_geI, r_int, r_intB, r_abs, r_max, r_min, r_divmod, r_lenL, r_lenT, r_lenF, q_rng1, q_setAt, r_cutL, r_cutF, r_cutT, r_isN, r_isI, noX_ok, q_gTp2, q_gTp3, q_gTq2, q_gTq3, q_gSb, r_ixT, r_ixL, r_ixF, srcT, srcL, srcF, tr_bl, tr_int, wipeE, List.set_cons_zero, List.set_cons_succ, List.getElem?_cons_zero, List.getElem?_cons_succ, List.length_cons, List.length_nil, Nat.reduceAdd, Nat.reduceLeDiff, ↓reduceIte, Bool.false_eq_true, Bool.not_true, Bool.not_false, decide_true, decide_false, q_xnew, q_xnew0, mkX1, mkX2, pick0, pickA, pickK_some, pickDf, pickD_some, q_newSel, q_callSel, tryK_nx, tryK_rt, tryK_ex, q_tryX, cauK_ok, cauK_exc, q_caught, strRes_str, ownRes_bl, q_sm, strK_str, q_2F, q_NF, q_raise, excK_xv, q_rng2, at0, at1, at2, at3, at4, at5, at6, at7, at8, wp_ok, wp_exc, nxQ_nx, nxQ_rt, nxQ_ct, nxQ_bk, nxQ_ex, trQ_nx, trQ_ct, trQ_bk, trQ_rt, trQ_ex, enQ_rt, enQ_nx, enQ_ex, reads12 (Py.mono hm2.2.2.2)]
    exact ⟨hm2.2.2.1, y2, _, _, rfl, Py, hm2.2.1, C2⟩
  · rintro e z ⟨_, x, x2, m, rfl, Px, hm, Cz⟩
    simp only [bnd_ok, bnd_exc, bnd_bad, at_ok, at_exc, at_bad, nxt_nx, nxt_rt, nxt_ex, nxt_bk, nxt_ct, nxt_bad, trn_nx, trn_ct, trn_bk, trn_rt, trn_ex, endF_rt, endF_nx, endF_ex, optR_some, getV_some, q_V, q_K, q_1, q_2, q_nil, q_cons, q_N, q_tup, q_lst, q_newT, q_newF, q_ifE, q_and, q_or, q_not, blR_bl, q_bl, q_val, q_dAnd, q_dOr, q_dNot, q_chain, q_call, q_callK, q_new, q_newK, q_cut, intR_int, q_partN, q_partS, q_src, q_lm, q_sNil, q_seq, q_ex, q_ret, q_retN, q_if, q_asg, q_par, q_par3, q_sub, q_gNm, q_for, forR_seq, forR_cell, forSeq_nil, q_comp, compR_seq, compR_cell, compSeq_nil, r_addI, r_addT, r_addL, r_subI, r_mulI, r_divI, r_modI, r_eqI, r_neI, r_eqS, r_neS, r_ltI, r_leI, r_gtI, r_geI, r_int, r_intB, r_abs, r_max, r_min, r_divmod, r_lenL, r_lenT, r_lenF, q_rng1, q_setAt, r_cutL, r_cutF, r_cutT, r_isN, r_isI, noX_ok, q_gTp2, q_gTp3, q_gTq2, q_gTq3, q_gSb, r_ixT, r_ixL, r_ixF, srcT, srcL, srcF, tr_bl, tr_int, wipeE, List.set_cons_zero, List.set_cons_succ, List.getElem?_cons_zero, List.getElem?_cons_succ, List.length_cons, List.length_nil, Nat.reduceAdd, Nat.reduceLeDiff, ↓reduceIte, Bool.false_eq_true, Bool.not_true, Bool.not_false, decide_true, decide_false, q_xnew, q_xnew0, mkX1, mkX2, pick0, pickA, pickK_some, pickDf, pickD_some, q_newSel, q_callSel, tryK_nx, tryK_rt, tryK_ex, q_tryX, cauK_ok, cauK_exc, q_caught, strRes_str, ownRes_bl, q_sm, strK_str, q_2F, q_NF, q_raise, excK_xv, q_rng2, at0, at1, at2, at3, at4, at5, at6, at7, at8, wp_ok, wp_exc, nxQ_nx, nxQ_rt, nxQ_ct, nxQ_bk, nxQ_ex, trQ_nx, trQ_ct, trQ_bk, trQ_rt, trQ_ex, enQ_rt, enQ_nx, enQ_ex]
    exact ⟨trivial, Cz⟩
end
def q1 : SD := (sFor (dSrc (dLst false [(dK .non), (dK (.int 0)), (dK (.bl true)), (dTup []), (dTup [(dK (.str ⟨#[104, 111, 117, 115, 101]⟩))]), (dLst false [(dK (.str ⟨#[104, 111, 117, 115, 101, 32, 119, 97, 118, 101, 32, 49, 32, 100, 97, 121, 115, 32, 49, 32, 115, 105, 108, 101, 110, 116, 32, 107, 101, 101, 112, 32, 100, 101, 99, 108, 105, 110, 101, 100, 32, 107, 101, 101, 112]⟩))]), (dDictV [] []), (dNewK false 0 15 [(dK (.int 1)), (dK (.int 1))] [.a 0, .a 1, .d (.str ⟨#[107, 101, 101, 112]⟩), .d (.str ⟨#[107, 101, 101, 112]⟩)])])) (gNm 1) (sSeq
    (sIf (tBl (d2 oNe (dCaught (fun k => List.contains [1, 2, 3, 4, 5, 6, 7, 8, 9, 10, 11, 12] k) TH2 8 3 2 (dNF (bOwn gm.ownB gm.b 3 bStr) [(dMethK gm.b gm.cm gm.sgf 1 (dK (.cls 0)) [(dV 1)] [] [])]) (dLst false [(dK (.str ⟨#[116, 111, 108, 100]⟩)), (dN bRepr [(dV 2)])])) (dLst false [(dK (.str ⟨#[116, 101, 120, 116]⟩)), (dNF (bOwn gm.ownB gm.b 4 bRepr) [(dV 1)])]))) (sSeq
    (sRet (dK (.bl false))) sNil) sNil) sNil))
def q2 : SD := (sFor (dSrc (dLst false [(dK (.str ⟨#[]⟩)), (dK (.str ⟨#[32]⟩)), (dK (.str ⟨#[104, 111, 117, 115, 101]⟩)), (dK (.str ⟨#[104, 111, 117, 115, 101, 32, 119, 97, 118, 101, 32, 49, 32, 100, 97, 121, 115, 32, 49]⟩)), (dK (.str ⟨#[104, 111, 117, 115, 101, 32, 119, 97, 118, 101, 32, 49, 50, 32, 100, 97, 121, 115, 32, 51, 32, 115, 105, 108, 101, 110, 116, 32, 107, 101, 101, 112, 32, 100, 101, 99, 108, 105, 110, 101, 100, 32, 107, 101, 101, 112]⟩))])) (gNm 2) (sSeq
    (sIf (tNotT (tVal (dCall 12 [(dV 2)]))) (sSeq
    (sRet (dK (.bl false))) sNil) sNil) sNil))
def q3 : SD := (sSeq
    (sAsg (dCall 4 [(dCall 3 [(dV 0), (dV 3)])]) (gNm 4)) (sSeq
    (sIf (tNotT (tVal (dN bAll [(dComp false (dRng1 (dK (.int 4))) [5] (.nm 5) tYesT (dCall 13 [(dV 4)]))]))) (sSeq
    (sRet (dK (.bl false))) sNil) sNil) sNil))

theorem b14_eq : b14 = sSeq q1 (sSeq q2 (sSeq (sFor (dRng1 (dN bMax [(dK (.int 2)), (dN bMin [(dN bLen [(dV 0)]), (dK (.int 8))])])) (gNm 3) q3) (sSeq (sRet (dK (.bl true))) sNil))) := rfl
theorem run1 {v : PV} : q1 (callK T2 19) [some v, none, none, none, none, none] [] = .ok (.nx [some v, some (hsV 1 1 ⟨#[107, 101, 101, 112]⟩ ⟨#[107, 101, 101, 112]⟩), none, none, none, none]) [.dead] := by kernel_rfl
theorem run2 {v w : PV} : q2 (callK T2 19) [some v, some w, none, none, none, none] [.dead] = .ok (.nx [some v, some w, some (.str ⟨#[104, 111, 117, 115, 101, 32, 119, 97, 118, 101, 32, 49, 50, 32, 100, 97, 121, 115, 32, 51, 32, 115, 105, 108, 101, 110, 116, 32, 107, 101, 101, 112, 32, 100, 101, 99, 108, 105, 110, 101, 100, 32, 107, 101, 101, 112]⟩), none, none, none]) [.dead] := by kernel_rfl
theorem ints_lt {n : Nat} (hn : n < 1000) : ∀ y ∈ OL.intsFrom 0 n, ∃ t : Int, (0 ≤ t ∧ t < 1000) ∧ y = .int t := by
  intro y hy
  simp only [OL.intsFrom, List.mem_map, List.mem_range] at hy
  obtain ⟨i, hi, rfl⟩ := hy
  exact ⟨_, ⟨by omega, by omega⟩, rfl⟩
theorem many8 (l : Nat) : ∃ m : Nat, m < 1000 ∧ (if (if (8 : Int) < (l : Int) then 8 else (l : Int)) > 2 then (if (8 : Int) < (l : Int) then 8 else (l : Int)) else 2) = (m : Int) := by
  by_cases h1 : (8 : Int) < l
  · exact ⟨8, by decide, by simp only [h1, ↓reduceIte]; rfl⟩
  · by_cases h2 : (l : Int) > 2
    · exact ⟨l, by omega, by simp only [h1, h2, ↓reduceIte]⟩
    · exact ⟨2, by decide, by simp only [h1, h2, ↓reduceIte]; rfl⟩
theorem law14 (ns : List Int) (hn : ns.length ≤ 63) : WP (callK T2 20 14 [.fl (ns.map .int)] []) (fun v _ => v = .bl true) NX := by
  have hs : startE s14.N.length [.fl (ns.map .int)] = [some (.fl (ns.map .int)), none, none, none, none, none] := rfl
  have hp : pureVs [.fl (ns.map PV.int)] = true := by simp only [pureVs, pureV, ints_pure, Bool.and_self]
  obtain ⟨m, hm1, hm2⟩ := many8 (ns.map PV.int).length
  have r4 : ∀ z : Sto, rngR (.int 4) z = .ok (.seq (OL.intsFrom 0 4)) z := fun z => rngR_nat (n := 4) (by decide)
  refine wp_iso (fi := ⟨s14.ps, s14.N, b14⟩) rfl rfl hp ?_
  simp only [hs, b14_eq, bnd_ok, bnd_exc, bnd_bad, at_ok, at_exc, at_bad, nxt_nx, nxt_rt, nxt_ex, nxt_bk, nxt_ct, nxt_bad, trn_nx, trn_ct, trn_bk, trn_rt, trn_ex, endF_rt, endF_nx, endF_ex, optR_some, getV_some, q_V, q_K, q_1, q_2, q_nil, q_cons, q_N, q_tup, q_lst, q_newT, q_newF, q_ifE, q_and, q_or, q_not, blR_bl, q_bl, q_val, q_dAnd, q_dOr, q_dNot, q_chain, q_call, q_callK, q_new, q_newK, q_cut, intR_int, q_partN, q_partS, q_src, q_lm, q_sNil, q_seq, q_ex, q_ret, q_retN, q_if, q_asg, q_par, q_par3, q_sub, q_gNm, q_for, forR_seq, forR_cell, forSeq_nil, q_comp, compR_seq, compR_cell, compSeq_nil, r_addI, r_addT, r_addL, r_subI, r_mulI, r_divI, r_modI, r_eqI, r_neI, r_eqS, r_neS, r_ltI, r_leI, r_gtI, r_geI, r_int, r_intB, r_abs, r_max, r_min, r_divmod, r_lenL, r_lenT, r_lenF, q_rng1, q_setAt, r_cutL, r_cutF, r_cutT, r_isN, r_isI, noX_ok, q_gTp2, q_gTp3, q_gTq2, q_gTq3, q_gSb, r_ixT, r_ixL, r_ixF, srcT, srcL, srcF, tr_bl, tr_int, wipeE, List.set_cons_zero, List.set_cons_succ, List.getElem?_cons_zero, List.getElem?_cons_succ, List.length_cons, List.length_nil, Nat.reduceAdd, Nat.reduceLeDiff, ↓reduceIte, Bool.false_eq_true, Bool.not_true, Bool.not_false, decide_true, decide_false, q_xnew, q_xnew0, mkX1, mkX2, pick0, pickA, pickK_some, pickDf, pickD_some, q_newSel, q_callSel, tryK_nx, tryK_rt, tryK_ex, q_tryX, cauK_ok, cauK_exc, q_caught, strRes_str, ownRes_bl, q_sm, strK_str, q_2F, q_NF, q_raise, excK_xv, q_rng2, at0, at1, at2, at3, at4, at5, at6, at7, at8, wp_ok, wp_exc, nxQ_nx, nxQ_rt, nxQ_ct, nxQ_bk, nxQ_ex, trQ_nx, trQ_ct, trQ_bk, trQ_rt, trQ_ex, enQ_rt, enQ_nx, enQ_ex, run1, run2, hm2, rngR_nat (n := m) (by omega)]
  repeat (with_reducible first | apply wp_nxt | apply wp_at | apply wp_bnd | apply wp_trn)
  refine wp_forSeq (fun ys e z => (∀ y ∈ ys, ∃ t : Int, (0 ≤ t ∧ t < 1000) ∧ y = .int t) ∧ ∃ x1 x2 x3 x4 x5, e = [some (.fl (ns.map .int)), x1, x2, x3, x4, x5]) ?_ ?_ _ _ _ ⟨ints_lt hm1, _, _, _, _, _, rfl⟩
  · rintro y ys e z ⟨hy, x1, x2, x3, x4, x5, rfl⟩
    obtain ⟨t, ht, rfl⟩ := hy y (List.mem_cons_self ..)
    obtain ⟨v, h3⟩ := num3 (k := 18) (st := z) hn ht
    obtain ⟨a, b, hb, h4⟩ := purse4 (k := 18) (v := v) (st := z)
    have C : Prs z.length (z ++ [.lst [.int a, .int b, .int 0]]) := ⟨a, b, 0, hb, app_at⟩
    simp only [q3, bnd_ok, bnd_exc, bnd_bad, at_ok, at_exc, at_bad, nxt_nx, nxt_rt, nxt_ex, nxt_bk, nxt_ct, nxt_bad, trn_nx, trn_ct, trn_bk, trn_rt, trn_ex, endF_rt, endF_nx, endF_ex, optR_some, getV_some, q_V, q_K, q_1, q_2, q_nil, q_cons, q_N, q_tup, q_lst, q_newT, q_newF, q_ifE, q_and, q_or, q_not, blR_bl, q_bl, q_val, q_dAnd, q_dOr, q_dNot, q_chain, q_call, q_callK, q_new, q_newK, q_cut, intR_int, q_partN, q_partS, q_src, q_lm, q_sNil, q_seq, q_ex, q_ret, q_retN, q_if, q_asg, q_par, q_par3, q_sub, q_gNm, q_for, forR_seq, forR_cell, forSeq_nil, q_comp, compR_seq, compR_cell, compSeq_nil, r_addI, r_addT, r_addL, r_subI, r_mulI, r_divI, r_modI, r_eqI, r_neI, r_eqS, r_neS, r_ltI, r_leI, r_gtI, r_geI, r_int, r_intB, r_abs, r_max, r_min, r_divmod, r_lenL, r_lenT, r_lenF, q_rng1, q_setAt, r_cutL, r_cutF, r_cutT, r_isN, r_isI, noX_ok, q_gTp2, q_gTp3, q_gTq2, q_gTq3, q_gSb, r_ixT, r_ixL, r_ixF, srcT, srcL, srcF, tr_bl, tr_int, wipeE, List.set_cons_zero, List.set_cons_succ, List.getElem?_cons_zero, List.getElem?_cons_succ, List.length_cons, List.length_nil, Nat.reduceAdd, Nat.reduceLeDiff, ↓reduceIte, Bool.false_eq_true, Bool.not_true, Bool.not_false, decide_true, decide_false, q_xnew, q_xnew0, mkX1, mkX2, pick0, pickA, pickK_some, pickDf, pickD_some, q_newSel, q_callSel, tryK_nx, tryK_rt, tryK_ex, q_tryX, cauK_ok, cauK_exc, q_caught, strRes_str, ownRes_bl, q_sm, strK_str, q_2F, q_NF, q_raise, excK_xv, q_rng2, at0, at1, at2, at3, at4, at5, at6, at7, at8, wp_ok, wp_exc, nxQ_nx, nxQ_rt, nxQ_ct, nxQ_bk, nxQ_ex, trQ_nx, trQ_ct, trQ_bk, trQ_rt, trQ_ex, enQ_rt, enQ_nx, enQ_ex, h3, h4, r4]
    repeat (with_reducible first | apply wp_nxt | apply wp_at | apply wp_bnd | apply wp_trn)
    refine wp_compSeq (fun ys acc z1 => acc.length + ys.length = 4 ∧ (∀ y ∈ acc, y = .bl true) ∧ Prs z.length z1) ?_ (OL.intsFrom 0 4) [] _ ⟨rfl, by simp, C⟩ ?_
    · rintro y r acc s ⟨hl, ha, Cs⟩
      simp only [cG, bnd_ok, bnd_exc, bnd_bad, at_ok, at_exc, at_bad, nxt_nx, nxt_rt, nxt_ex, nxt_bk, nxt_ct, nxt_bad, trn_nx, trn_ct, trn_bk, trn_rt, trn_ex, endF_rt, endF_nx, endF_ex, optR_some, getV_some, q_V, q_K, q_1, q_2, q_nil, q_cons, q_N, q_tup, q_lst, q_newT, q_newF, q_ifE, q_and, q_or, q_not, blR_bl, q_bl, q_val, q_dAnd, q_dOr, q_dNot, q_chain, q_call, q_callK, q_new, q_newK, q_cut, intR_int, q_partN, q_partS, q_src, q_lm, q_sNil, q_seq, q_ex, q_ret, q_retN, q_if, q_asg, q_par, q_par3, q_sub, q_gNm, q_for, forR_seq, forR_cell, forSeq_nil, q_comp, compR_seq, compR_cell, compSeq_nil, r_addI, r_addT, r_addL, r_subI, r_mulI, r_divI, r_modI, r_eqI, r_neI, r_eqS, r_neS, r_ltI, r_leI, r_gtI, r_geI, r_int, r_intB, r_abs, r_max, r_min, r_divmod, r_lenL, r_lenT, r_lenF, q_rng1, q_setAt, r_cutL, r_cutF, r_cutT, r_isN, r_isI, noX_ok, q_gTp2, q_gTp3, q_gTq2, q_gTq3, q_gSb, r_ixT, r_ixL, r_ixF, srcT, srcL, srcF, tr_bl, tr_int, wipeE, List.set_cons_zero, List.set_cons_succ, List.getElem?_cons_zero, List.getElem?_cons_succ, List.length_cons, List.length_nil, Nat.reduceAdd, Nat.reduceLeDiff, ↓reduceIte, Bool.false_eq_true, Bool.not_true, Bool.not_false, decide_true, decide_false, q_xnew, q_xnew0, mkX1, mkX2, pick0, pickA, pickK_some, pickDf, pickD_some, q_newSel, q_callSel, tryK_nx, tryK_rt, tryK_ex, q_tryX, cauK_ok, cauK_exc, q_caught, strRes_str, ownRes_bl, q_sm, strK_str, q_2F, q_NF, q_raise, excK_xv, q_rng2, at0, at1, at2, at3, at4, at5, at6, at7, at8, wp_ok, wp_exc, nxQ_nx, nxQ_rt, nxQ_ct, nxQ_bk, nxQ_ex, trQ_nx, trQ_ct, trQ_bk, trQ_rt, trQ_ex, enQ_rt, enQ_nx, enQ_ex, tYesT]
      refine (right13 (k := 12) Cs).mono ?_ fun _ _ _ _ h => h
      rintro _ s2 ⟨rfl, C2⟩
      refine ⟨?_, ?_, C2⟩
      · simp only [List.length_append, List.length_cons, List.length_nil] at hl ⊢; omega
      · intro y hy
        rcases List.mem_append.mp hy with hy | hy
        · exact ha y hy
        · exact List.mem_singleton.mp hy
    · rintro zs s ⟨hl, ha, Cs⟩
      have hz : zs = List.replicate 4 (.bl true) := by
        refine List.eq_replicate_iff.mpr ⟨by simpa using hl, fun y hy => ha y (by simpa using hy)⟩
      subst hz
      have hlen : (List.replicate 4 (PV.bl true)).length ≤ 16777216 := by decide
      have hall : ∀ z : Sto, bAll [.lv (List.replicate 4 (.bl true))] z = .ok (.bl true) z := fun z => r_allT
      simp only [bnd_ok, bnd_exc, bnd_bad, at_ok, at_exc, at_bad, nxt_nx, nxt_rt, nxt_ex, nxt_bk, nxt_ct, nxt_bad, trn_nx, trn_ct, trn_bk, trn_rt, trn_ex, endF_rt, endF_nx, endF_ex, optR_some, getV_some, q_V, q_K, q_1, q_2, q_nil, q_cons, q_N, q_tup, q_lst, q_newT, q_newF, q_ifE, q_and, q_or, q_not, blR_bl, q_bl, q_val, q_dAnd, q_dOr, q_dNot, q_chain, q_call, q_callK, q_new, q_newK, q_cut, intR_int, q_partN, q_partS, q_src, q_lm, q_sNil, q_seq, q_ex, q_ret, q_retN, q_if, q_asg, q_par, q_par3, q_sub, q_gNm, q_for, forR_seq, forR_cell, forSeq_nil, q_comp, compR_seq, compR_cell, compSeq_nil, r_addI, r_addT, r_addL, r_subI, r_mulI, r_divI, r_modI, r_eqI, r_neI, r_eqS, r_neS, r_ltI, r_leI, r_gtI, r_geI, r_int, r_intB, r_abs, r_max, r_min, r_divmod, r_lenL, r_lenT, r_lenF, q_rng1, q_setAt, r_cutL, r_cutF, r_cutT, r_isN, r_isI, noX_ok, q_gTp2, q_gTp3, q_gTq2, q_gTq3, q_gSb, r_ixT, r_ixL, r_ixF, srcT, srcL, srcF, tr_bl, tr_int, wipeE, List.set_cons_zero, List.set_cons_succ, List.getElem?_cons_zero, List.getElem?_cons_succ, List.length_cons, List.length_nil, Nat.reduceAdd, Nat.reduceLeDiff, ↓reduceIte, Bool.false_eq_true, Bool.not_true, Bool.not_false, decide_true, decide_false, q_xnew, q_xnew0, mkX1, mkX2, pick0, pickA, pickK_some, pickDf, pickD_some, q_newSel, q_callSel, tryK_nx, tryK_rt, tryK_ex, q_tryX, cauK_ok, cauK_exc, q_caught, strRes_str, ownRes_bl, q_sm, strK_str, q_2F, q_NF, q_raise, excK_xv, q_rng2, at0, at1, at2, at3, at4, at5, at6, at7, at8, wp_ok, wp_exc, nxQ_nx, nxQ_rt, nxQ_ct, nxQ_bk, nxQ_ex, trQ_nx, trQ_ct, trQ_bk, trQ_rt, trQ_ex, enQ_rt, enQ_nx, enQ_ex, hlen, hall]
      exact ⟨fun y hy' => hy y (List.mem_cons_of_mem _ hy'), _, _, _, _, _, rfl⟩
  · rintro e z ⟨_, x1, x2, x3, x4, x5, rfl⟩
    simp only [bnd_ok, bnd_exc, bnd_bad, at_ok, at_exc, at_bad, nxt_nx, nxt_rt, nxt_ex, nxt_bk, nxt_ct, nxt_bad, trn_nx, trn_ct, trn_bk, trn_rt, trn_ex, endF_rt, endF_nx, endF_ex, optR_some, getV_some, q_V, q_K, q_1, q_2, q_nil, q_cons, q_N, q_tup, q_lst, q_newT, q_newF, q_ifE, q_and, q_or, q_not, blR_bl, q_bl, q_val, q_dAnd, q_dOr, q_dNot, q_chain, q_call, q_callK, q_new, q_newK, q_cut, intR_int, q_partN, q_partS, q_src, q_lm, q_sNil, q_seq, q_ex, q_ret, q_retN, q_if, q_asg, q_par, q_par3, q_sub, q_gNm, q_for, forR_seq, forR_cell, forSeq_nil, q_comp, compR_seq, compR_cell, compSeq_nil, r_addI, r_addT, r_addL, r_subI, r_mulI, r_divI, r_modI, r_eqI, r_neI, r_eqS, r_neS, r_ltI, r_leI, r_gtI, r_geI, r_int, r_intB, r_abs, r_max, r_min, r_divmod, r_lenL, r_lenT, r_lenF, q_rng1, q_setAt, r_cutL, r_cutF, r_cutT, r_isN, r_isI, noX_ok, q_gTp2, q_gTp3, q_gTq2, q_gTq3, q_gSb, r_ixT, r_ixL, r_ixF, srcT, srcL, srcF, tr_bl, tr_int, wipeE, List.set_cons_zero, List.set_cons_succ, List.getElem?_cons_zero, List.getElem?_cons_succ, List.length_cons, List.length_nil, Nat.reduceAdd, Nat.reduceLeDiff, ↓reduceIte, Bool.false_eq_true, Bool.not_true, Bool.not_false, decide_true, decide_false, q_xnew, q_xnew0, mkX1, mkX2, pick0, pickA, pickK_some, pickDf, pickD_some, q_newSel, q_callSel, tryK_nx, tryK_rt, tryK_ex, q_tryX, cauK_ok, cauK_exc, q_caught, strRes_str, ownRes_bl, q_sm, strK_str, q_2F, q_NF, q_raise, excK_xv, q_rng2, at0, at1, at2, at3, at4, at5, at6, at7, at8, wp_ok, wp_exc, nxQ_nx, nxQ_rt, nxQ_ct, nxQ_bk, nxQ_ex, trQ_nx, trQ_ct, trQ_bk, trQ_rt, trQ_ex, enQ_rt, enQ_nx, enQ_ex]
    exact ⟨rfl, trivial⟩
theorem pure_law (ns : List Int) (hn : ns.length ≤ 63) : ∃ st', callK (mkT (tab.gam 400 L) 400 L) 20 14 [.fl (ns.map .int)] [] = .ok (.bl true) st' := by
  have e : mkT (tab.gam 400 L) 400 L = T2 := T_eq
  rw [e]
  obtain ⟨v, s, h, rfl⟩ := (law14 ns hn).get
  exact ⟨s, h⟩
end Lw
namespace Lw
open PySem PySem.Spec PyProof.Rows L2 OL
theorem run (w : World) : HandSHeadRun.RunEq Rw (PySem.W.view Rw.prog [35]) (hookO 5 tab L) ob 5000 loose w := by
  intro os
  kernel_rfl
end Lw
open PySem PySem.W PySem.Calls PyProof.Rows
theorem PySem.Challenge.cw_offerlists_k04_house_texts_read_holds : PySem.Challenge.rw_offerlists_k04_house_texts_read.Holds := by
  w_on; o_law
  refine HandSHeadRun.head_any (r := Lw.Rw) (q := view Lw.Rw.prog [35]) (H := OL.hookO 5 Lw.tab Lw.L) (ob := Lw.ob) (M := 5000) (loose := Lw.loose) (d := HandSHeadRun.topDef Lw.Rw.prog 35) (kwd := []) Lw.ob_eq
    (by kernel_rfl) (fun s => by kernel_rfl) Lw.run (by kernel_rfl) (by kernel_rfl) (by kernel_rfl) (by rfl) (by first | assumption | decide +kernel) (by decide +kernel) ⟨rfl, rfl, rfl, rfl, rfl, by decide +kernel⟩ ?hw ?hc
  case hw => w_witness2
  case hc =>
    exact OL.walk_g (l := PySem.Challenge.rw_offerlists_k04_house_texts_read) (n := 63) (k := 20) (fu := 400) (j := 14) (t := Lw.tab) (L := Lw.L) (dep := 5) (f := Lw.s14) (x := "_law_script") rfl (by decide) (by kernel_rfl) (by decide) rfl rfl (fun _ => by kernel_rfl) Lw.txt (by kernel_rfl) (by kernel_rfl) Lw.pure_law

