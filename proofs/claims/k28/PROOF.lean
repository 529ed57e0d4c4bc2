import PyProof.Rows.All
import PySem.PyData
import KE.LtData
import HandS.ForMost
import HandS.Exc
import HandS.TryOnly
import HandS.ExcOwn
import HandS.WordsExc
import HandS.IsInst
import HandS.Wide
import HandS.Flow
import HandS.Style
import HandS.Zip
import HandS.Lambda
import KE.KExcIs
import HandS.HotCalls
import HandS.ExcField
import HandS.ExcIs
import HandS.ExcInit
import HandS.Deep
import HandS.More
import HandS.SetKeys
import HandS.DictTup
import PyProof.DictMoreH
import KE.KDictDisplayH
import HandS.EndTab
import PyProof.ZipIter
import KE.SortData
import KE.DataMinMax
import Wide.All
import OpenK.AllK
import Wide.FinOn
import PySem.Challenge.RW_whicheverfits_k28_two_routes_need_these

set_option linter.all false
set_option autoImplicit false
/-! PyEv: a small functional evaluator of the Python that the laws use: data, states, one combinator a construct. -/
namespace Mini
open PySem

/-- data by value; cells are named mutable objects of the store; scr is the script -/
inductive D where
  | non | bl (b : Bool) | int (i : Int) | str (x : Str) | lst (xs : List D) | tup (xs : List D) | scr (xs : List Int) | cell (n : Nat)
  deriving Inhabited

/-- an expression's value: shared, or a list just made that nobody else holds -/
inductive Vl where
  | sh (d : D) | ow (xs : List D)
def Vl.d : Vl → D
  | .sh d => d
  | .ow xs => .lst xs
theorem Vl.d_sh (d : D) : (Vl.sh d).d = d := rfl
theorem Vl.d_ow (xs : List D) : (Vl.ow xs).d = .lst xs := rfl

abbrev Ky := Sum Int Str
def D.ofKy : Ky → D
  | .inl i => .int i
  | .inr x => .str x
def D.ky? : D → Option Ky
  | .int i => some (.inl i)
  | .str x => some (.inr x)
  | _ => none
inductive Cell where
  | lst (xs : List D)
  | dK (kvs : List (Ky × D))
  | tab (P : Nat) (q : Str)
  | dT (kvs : List (List Ky × D))

structure Xc where
  cls : Str
  fs : List (Str × D)

structure St where
  env : List (Option Vl)
  om : List Cell

inductive R (α : Type) where
  | ok (a : α) (st : St) | ex (x : Xc) (st : St) | no

def R.bind {α β : Type} (r : R α) (f : α → St → R β) : R β :=
  match r with
  | .ok a st => f a st
  | .ex x st => .ex x st
  | .no => .no
section
variable {α β : Type} (a : α) (st : St) (x : Xc) (f : α → St → R β)
theorem R.bind_ok : (R.ok a st).bind f = f a st := rfl
theorem R.bind_ex : (R.ex x st : R α).bind f = .ex x st := rfl
theorem R.bind_no : (R.no : R α).bind f = .no := rfl
end

abbrev EvE := St → R Vl
abbrev EvT := St → R Bool
abbrev EvA := St → R (List D)

/-- what a def gives -/
inductive FR where
  | ok (v : Vl) (om : List Cell) | ex (x : Xc) (om : List Cell) | no
abbrev Fn := List D → List Cell → FR

/-- a statement's end -/
inductive O where
  | nx (st : St) | rt (v : Vl) (st : St) | bk (st : St) | ct (st : St) | ex (x : Xc) (st : St) | no
abbrev EvS := St → O

def R.thenS {α : Type} (r : R α) (f : α → St → O) : O :=
  match r with
  | .ok a st => f a st
  | .ex x st => .ex x st
  | .no => .no
section
variable {α : Type} (a : α) (st : St) (x : Xc) (f : α → St → O)
theorem R.thenS_ok : (R.ok a st).thenS f = f a st := rfl
theorem R.thenS_ex : (R.ex x st : R α).thenS f = .ex x st := rfl
theorem R.thenS_no : (R.no : R α).thenS f = .no := rfl
end

def many : Nat := 100000

/-! ### expressions -/
def eNo : EvE := fun _ => .no
def eVar (i : Nat) : EvE := fun st => match st.env[i]? with
  | some (some (.sh d)) => .ok (.sh d) st
  | some (some (.ow xs)) => .ok (.sh (.lst xs)) { st with env := st.env.set i (some (.sh (.lst xs))) }
  | _ => .no
def eC (d : D) : EvE := fun st => .ok (.sh d) st
def eInt (i : Int) : EvE := eC (.int i)
def eStr (x : Str) : EvE := eC (.str x)

abbrev Op2 := D → D → Option Vl
def eOp (f : Op2) (a b : EvE) : EvE := fun st => (a st).bind fun x s1 => (b s1).bind fun y s2 => match f x.d y.d with
  | some v => .ok v s2
  | none => .no
abbrev Op1 := D → Option Vl
def eOp1 (f : Op1) (a : EvE) : EvE := fun st => (a st).bind fun x s1 => match f x.d with
  | some v => .ok v s1
  | none => .no

def wordOk (i j : Int) : Bool := decide (i.natAbs < 2 ^ 64) || (decide (j.natAbs < 2 ^ 64) || decide (i.natAbs.log2 + j.natAbs.log2 < 1000000))
def oAdd : Op2
  | .int i, .int j => some (.sh (.int (i + j)))
  | .str x, .str y => if x.cps.size + y.cps.size ≤ many then some (.sh (.str ⟨x.cps ++ y.cps⟩)) else none
  | .lst xs, .lst ys => if xs.length + ys.length ≤ many then some (.ow (xs ++ ys)) else none
  | _, _ => none
def oSub : Op2
  | .int i, .int j => some (.sh (.int (i - j)))
  | _, _ => none
def oMul : Op2
  | .int i, .int j => if wordOk i j then some (.sh (.int (i * j))) else none
  | .lst xs, .int k => if xs.length * k.toNat ≤ many ∧ -1000000 ≤ k ∧ k ≤ 1000000 then some (.ow (List.replicate k.toNat xs).flatten) else none
  | _, _ => none
def oDiv : Op2
  | .int i, .int j => if 0 < j ∧ j.natAbs.log2 < 9000 then some (.sh (.int (i / j))) else none
  | _, _ => none
def oMod : Op2
  | .int i, .int j => if j = 0 then none else some (.sh (.int (i.fmod j)))
  | _, _ => none
def oPow : Op2
  | .int i, .int j => if 0 ≤ j ∧ j ≤ 1000 ∧ i.natAbs.log2 < 1000 then some (.sh (.int (i ^ j.toNat))) else none
  | _, _ => none
def oNeg : Op1
  | .int i => some (.sh (.int (-i)))
  | _ => none

/-! comparisons -/
def strFine (x : Str) : Bool := decide (x.cps.size ≤ many) && x.cps.all fun c => decide (c < 0xD800)
mutual
/-- Python's == over plain data, none where it is not told here -/
def D.eq : D → D → Bool
  | .non, .non => true
  | .bl a, .bl b => a == b
  | .bl a, .int j => (if a then 1 else 0) == j
  | .int i, .bl b => i == (if b then 1 else 0)
  | .int i, .int j => i == j
  | .str x, .str y => x == y
  | .lst xs, .lst ys => D.eqs xs ys
  | .tup xs, .tup ys => D.eqs xs ys
  | _, _ => false
def D.eqs : List D → List D → Bool
  | [], [] => true
  | x :: xs, y :: ys => D.eq x y && D.eqs xs ys
  | _, _ => false
end
mutual
/-- plain data, at most so deep -/
def D.fine : Nat → D → Bool
  | _, .non => true
  | _, .bl _ => true
  | _, .int _ => true
  | _, .str x => strFine x
  | 0, _ => false
  | n + 1, .lst xs => D.fines n xs
  | n + 1, .tup xs => D.fines n xs
  | _, _ => false
def D.fines : Nat → List D → Bool
  | _, [] => true
  | n, x :: xs => D.fine n x && D.fines n xs
end
def deep : Nat := 20
def oEq : Op2 := fun x y => if x.fine deep && y.fine deep then some (.sh (.bl (x.eq y))) else none
def oNe : Op2 := fun x y => if x.fine deep && y.fine deep then some (.sh (.bl (!x.eq y))) else none
def oCmp (p : Int → Int → Bool) : Op2
  | .int i, .int j => some (.sh (.bl (p i j)))
  | _, _ => none
def oLt : Op2 := oCmp fun i j => decide (i < j)
def oLe : Op2 := oCmp fun i j => decide (i ≤ j)
def oGt : Op2 := oCmp fun i j => decide (j < i)
def oGe : Op2 := oCmp fun i j => decide (j ≤ i)
def D.isNon : D → Bool
  | .non => true
  | _ => false
def oIsN : Op1 := fun x => some (.sh (.bl x.isNon))
def oNotN : Op1 := fun x => some (.sh (.bl (!x.isNon)))

/-! displays -/
def aNil : EvA := fun st => .ok [] st
def aCons (e : EvE) (r : EvA) : EvA := fun st => (e st).bind fun x s1 => (r s1).bind fun xs s2 => .ok (x.d :: xs) s2
def eTup (a : EvA) : EvE := fun st => (a st).bind fun xs s1 => if xs.length ≤ many then .ok (.sh (.tup xs)) s1 else .no
def eLst (a : EvA) : EvE := fun st => (a st).bind fun xs s1 => if xs.length ≤ many then .ok (.ow xs) s1 else .no

/-! subscripts -/
def ixNat (n : Nat) (i : Int) : Option Nat := if 0 ≤ i then (if i < n then some i.toNat else none) else if -(n : Int) ≤ i then some (i + n).toNat else none
def atIx {α : Type} (xs : List α) (i : Int) : Option α := (ixNat xs.length i).bind fun j => xs[j]?
def oIx : Op2
  | .lst xs, .int i => (atIx xs i).map .sh
  | .tup xs, .int i => (atIx xs i).map .sh
  | .scr xs, .int i => (atIx xs i).map fun k => .sh (.int k)
  | _, _ => none
/-- the list of slot i as it stands -/
def St.look (st : St) (i : Nat) : Option (List D) := match st.env[i]? with
  | some (some (.sh (.lst xs))) => some xs
  | some (some (.ow xs)) => some xs
  | _ => none
/-- len of slot i, without an end to its being ours -/
def eLenV (i : Nat) : EvE := fun st => match st.look i with
  | some xs => .ok (.sh (.int xs.length)) st
  | none => .no
def oLen : Op1
  | .lst xs => some (.sh (.int xs.length))
  | .tup xs => some (.sh (.int xs.length))
  | .scr xs => some (.sh (.int xs.length))
  | .str x => if x.cps.size ≤ many then some (.sh (.int x.cps.size)) else none
  | _ => none

/-! dicts that are cells -/
def kvGet {κ : Type} [DecidableEq κ] (kvs : List (κ × D)) (k : κ) : Option D := (kvs.find? fun kv => decide (kv.1 = k)).map (·.2)
def kvPut {κ : Type} [DecidableEq κ] (kvs : List (κ × D)) (k : κ) (d : D) : List (κ × D) :=
  if (kvs.any fun kv => decide (kv.1 = k)) = true then kvs.map (fun kv => if kv.1 = k then (kv.1, d) else kv) else kvs ++ [(k, d)]
def eDGet (a b : EvE) : EvE := fun st => (a st).bind fun x s1 => (b s1).bind fun y s2 => match x.d, y.d.ky? with
  | .cell n, some k => (match s2.om[n]? with
    | some (.dK kvs) => (match kvGet kvs k with
      | some d => .ok (.sh d) s2
      | none => .no)
    | _ => .no)
  | _, _ => .no
/-- a display of texts' keys: a new cell -/
def eDisp (ks : List Str) (a : EvA) : EvE := fun st => (a st).bind fun ds s1 =>
  if ds.length = ks.length ∧ ks.length ≤ 15 then .ok (.sh (.cell s1.om.length)) { s1 with om := s1.om ++ [.dK ((ks.zip ds).foldl (fun acc kv => kvPut acc (.inr kv.1) kv.2) [])] } else .no
/-- a display of a list that is a cell -/
def eLstC (a : EvA) : EvE := fun st => (a st).bind fun xs s1 =>
  if xs.length ≤ many then .ok (.sh (.cell s1.om.length)) { s1 with om := s1.om ++ [.lst xs] } else .no
/-- c.pop(i) of a cell's list -/
def ePopC (a b : EvE) : EvE := fun st => (a st).bind fun x s1 => match x.d with
  | .cell n => (match s1.om[n]? with
    | some (.lst _) => (b s1).bind fun y s2 => (match y.d, s2.om[n]? with
      | .int i, some (.lst xs) => if 0 ≤ i ∧ i < 1000000 then (match xs[i.toNat]? with
        | some d => .ok (.sh d) { s2 with om := s2.om.set n (.lst (xs.eraseIdx i.toNat)) }
        | none => .no) else .no
      | _, _ => .no)
    | _ => .no)
  | _ => .no
/-- xs.pop(i) of our own list in slot j -/
def ePopV (j : Nat) (b : EvE) : EvE := fun st => match st.env[j]? with
  | some (some (.ow _)) => (b st).bind fun y s2 => (match y.d, s2.env[j]? with
    | .int i, some (some (.ow xs)) => if 0 ≤ i ∧ i < 1000000 then (match xs[i.toNat]? with
        | some d => .ok (.sh d) { s2 with env := s2.env.set j (some (.ow (xs.eraseIdx i.toNat))) }
        | none => .no) else .no
    | _, _ => .no)
  | _ => .no

/-! tests -/
def D.tru (om : List Cell) : D → Option Bool
  | .non => some false
  | .bl b => some b
  | .int i => some (i != 0)
  | .str x => if x.cps.size ≤ many then some ((x.cps.size : Int) != 0) else none
  | .lst xs => some (!xs.isEmpty)
  | .tup xs => some (!xs.isEmpty)
  | .scr xs => some (!xs.isEmpty)
  | .cell n => match om[n]? with
    | some (.lst xs) => some (!xs.isEmpty)
    | some (.dK kvs) => some (!kvs.isEmpty)
    | _ => none
def tTru (e : EvE) : EvT := fun st => (e st).bind fun x s1 => match x.d.tru s1.om with
  | some b => .ok b s1
  | none => .no
/-- the truth of the list in slot i, without an end to its being ours -/
def tTruV (i : Nat) : EvT := fun st => match st.look i with
  | some xs => .ok (!xs.isEmpty) st
  | none => .no
/-- a comparison as a test -/
def tBl (e : EvE) : EvT := fun st => (e st).bind fun x s1 => match x.d with
  | .bl b => .ok b s1
  | _ => .no
def tAnd (a b : EvT) : EvT := fun st => (a st).bind fun x s1 => if x = true then b s1 else .ok false s1
def tOr (a b : EvT) : EvT := fun st => (a st).bind fun x s1 => if x = true then .ok true s1 else b s1
def tNot (a : EvT) : EvT := fun st => (a st).bind fun x s1 => .ok (!x) s1
/-- and, or, not of truth values, as values -/
def eAnd (a b : EvE) : EvE := fun st => (a st).bind fun x s1 => match x.d with
  | .bl true => b s1
  | .bl false => .ok (.sh (.bl false)) s1
  | _ => .no
def eOr (a b : EvE) : EvE := fun st => (a st).bind fun x s1 => match x.d with
  | .bl true => .ok (.sh (.bl true)) s1
  | .bl false => b s1
  | _ => .no
def eNot (a : EvE) : EvE := fun st => (a st).bind fun x s1 => match x.d with
  | .bl b => .ok (.sh (.bl (!b))) s1
  | _ => .no
def eIf (t : EvT) (a b : EvE) : EvE := fun st => (t st).bind fun c s1 => if c = true then a s1 else b s1
/-- a < b < c -/
def eChain (f g : Op2) (a b c : EvE) : EvE := fun st => (a st).bind fun x s1 => (b s1).bind fun y s2 => match f x.d y.d with
  | some v => (match v.d with
    | .bl true => (c s2).bind fun z s3 => (match g y.d z.d with
      | some w => .ok w s3
      | none => .no)
    | .bl false => .ok (.sh (.bl false)) s2
    | _ => .no)
  | none => .no

/-! calls -/
def eCall (F : Fn) (a : EvA) : EvE := fun st => (a st).bind fun ds s1 => match F ds s1.om with
  | .ok v om => .ok v { s1 with om := om }
  | .ex x om => .ex x { s1 with om := om }
  | .no => .no
abbrev OpA := List D → Option Vl
/-- a built-in called -/
def eB (f : OpA) (a : EvA) : EvE := fun st => (a st).bind fun ds s1 => match f ds with
  | some v => .ok v s1
  | none => .no
def bAbs : OpA
  | [.int i] => some (.sh (.int (if i < 0 then -i else i)))
  | _ => none
def bMin : OpA
  | [.int i, .int j] => some (.sh (.int (if j < i then j else i)))
  | _ => none
def bMax : OpA
  | [.int i, .int j] => some (.sh (.int (if j > i then j else i)))
  | _ => none
def bLen : OpA
  | [x] => oLen x
  | _ => none
def bInt : OpA
  | [.int i] => some (.sh (.int i))
  | [.bl b] => some (.sh (.int (if b then 1 else 0)))
  | _ => none
def bList : OpA
  | [.lst xs] => some (.ow xs)
  | [.tup xs] => some (.ow xs)
  | _ => none
def bTuple : OpA
  | [.lst xs] => some (.sh (.tup xs))
  | [.tup xs] => some (.sh (.tup xs))
  | _ => none
def D.bls : List D → Option (List Bool)
  | [] => some []
  | .bl b :: r => (D.bls r).map (b :: ·)
  | _ => none
def bAll : OpA
  | [.lst xs] => (D.bls xs).map fun bs => .sh (.bl (bs.all id))
  | _ => none
def bAny : OpA
  | [.lst xs] => (D.bls xs).map fun bs => .sh (.bl (bs.any id))
  | _ => none
/-- isinstance(x, T), T by its name -/
inductive Ty where
  | bool | int | str | dict | tuple | list
def D.isA (om : List Cell) : D → Ty → Option Bool
  | .non, _ => some false
  | .bl _, .bool => some true
  | .bl _, .int => some true
  | .bl _, _ => some false
  | .int _, .int => some true
  | .int _, _ => some false
  | .str _, .str => some true
  | .str _, _ => some false
  | .lst _, .list => some true
  | .lst _, _ => some false
  | .tup _, .tuple => some true
  | .tup _, _ => some false
  | _, _ => none
def eIsA (a : EvE) (t : Ty) : EvE := fun st => (a st).bind fun x s1 => match x.d.isA s1.om t with
  | some b => .ok (.sh (.bl b)) s1
  | none => .no

/-! ### what is walked -/
abbrev EvI := St → R (List D)
def D.items : D → Option (List D)
  | .lst xs => some xs
  | .tup xs => some xs
  | _ => none
def iSeq (e : EvE) : EvI := fun st => (e st).bind fun x s1 => match x.d with
  | .lst xs => .ok xs s1
  | _ => .no
def iTup (e : EvE) : EvI := fun st => (e st).bind fun x s1 => match x.d with
  | .tup xs => .ok xs s1
  | _ => .no
/-- a list or a tuple -/
def iAny (e : EvE) : EvI := fun st => (e st).bind fun x s1 => match x.d with
  | .lst xs => .ok xs s1
  | .tup xs => .ok xs s1
  | _ => .no
def rangeD (lo : Int) (n : Nat) : List D := (List.range n).map fun (k : Nat) => D.int (lo + (k : Int))
def far : Int := 4000000000000000000
def iRange1 (a : EvA) : EvI := fun st => (a st).bind fun ds s1 => match ds with
  | [.int j] => if -far ≤ j ∧ j < far then .ok (rangeD 0 j.toNat) s1 else .no
  | _ => .no
def iRange2 (a : EvA) : EvI := fun st => (a st).bind fun ds s1 => match ds with
  | [.int i, .int j] => if (-far ≤ i ∧ i < far) ∧ -far ≤ j ∧ j < far then .ok (rangeD i (j - i).toNat) s1 else .no
  | _ => .no
def iZip (a : EvA) : EvI := fun st => (a st).bind fun ds s1 => match ds with
  | [.lst xs, .lst ys] => .ok ((xs.zip ys).map fun p => D.tup [p.1, p.2]) s1
  | _ => .no

/-! ### targets -/
abbrev EvG := D → St → Option St
def gNm (i : Nat) : EvG := fun d st => if i < st.env.length then some { st with env := st.env.set i (some (.sh d)) } else none
abbrev EvGs := List D → St → Option St
def gNone : EvGs := fun ds st => match ds with
  | [] => some st
  | _ => none
def gMore (g : EvG) (r : EvGs) : EvGs := fun ds st => match ds with
  | d :: ds => (g d st).bind fun s1 => r ds s1
  | [] => none
def gTp (r : EvGs) : EvG := fun d st => match d with
  | .tup ds => r ds st
  | _ => none

/-! ### a comprehension: own slots are empty ahead of it, and behind it -/
def wipeEnv (env : List (Option Vl)) : List Nat → List (Option Vl)
  | [] => env
  | v :: vs => (wipeEnv env vs).set v none
/-- an item's turn: some: it gives the value -/
def compGo (g : EvG) (t : EvT) (e : EvE) (vs : List Nat) : List D → List D → St → R (List D)
  | [], acc, st => .ok acc st
  | x :: xs, acc, st => match g x st with
    | none => .no
    | some s1 => (t s1).bind fun b s2 => if b = true then (e s2).bind fun y s3 => (if acc.length < many then compGo g t e vs xs (acc ++ [y.d]) { s3 with env := wipeEnv s3.env vs } else .no)
      else compGo g t e vs xs acc { s2 with env := wipeEnv s2.env vs }
/-- the slots of vs hold nothing of our own -/
def calmSlots (env : List (Option Vl)) (vs : List Nat) : Bool := vs.all fun v => match env[v]? with
  | some (some (.ow _)) => false
  | some _ => true
  | none => false
def restore (env env' : List (Option Vl)) : List Nat → List (Option Vl)
  | [] => env'
  | v :: vs => (restore env env' vs).set v (env[v]?.getD none)
def eComp (i : EvI) (g : EvG) (t : EvT) (e : EvE) (vs : List Nat) : EvE := fun st => (i st).bind fun xs s1 =>
  if calmSlots s1.env vs = true then (match compGo g t e vs xs [] { s1 with env := wipeEnv s1.env vs } with
    | .ok ys s2 => .ok (.ow ys) { s2 with env := restore s1.env s2.env vs }
    | _ => .no) else .no
def tYes : EvT := fun st => .ok true st

/-! ### statements -/
def sNo : EvS := fun _ => .no
def sPass : EvS := fun st => .nx st
def O.seq (o : O) (f : St → O) : O :=
  match o with
  | .nx st => f st
  | o => o
def sSeq (a b : EvS) : EvS := fun st => (a st).seq b
def sSet (i : Nat) (e : EvE) : EvS := fun st => (e st).thenS fun v s1 => if i < s1.env.length then .nx { s1 with env := s1.env.set i (some v) } else .no
def sGet (g : EvG) (e : EvE) : EvS := fun st => (e st).thenS fun v s1 => match g v.d s1 with
  | some s2 => .nx s2
  | none => .no
/-- several values, from the left -/
def eVals : List EvE → St → R (List Vl)
  | [], st => .ok [] st
  | e :: es, st => (e st).bind fun v s1 => (eVals es s1).bind fun vs s2 => .ok (v :: vs) s2
def setAll : List (Option Vl) → List Nat → List Vl → List (Option Vl)
  | env, i :: is, v :: vs => setAll (env.set i (some v)) is vs
  | env, _, _ => env
/-- a, b = x, y : no tuple is made -/
def sPar (is : List Nat) (es : List EvE) : EvS := fun st => (eVals es st).thenS fun vs s1 =>
  if is.all (fun i => decide (i < s1.env.length)) = true then .nx { s1 with env := setAll s1.env is vs } else .no
def sRet (e : EvE) : EvS := fun st => (e st).thenS fun v s1 => .rt v s1
/-- return of our own list in slot i -/
def eOwn (i : Nat) : EvE := fun st => match st.env[i]? with
  | some (some (.ow xs)) => .ok (.ow xs) { st with env := st.env.set i none }
  | some (some (.sh d)) => .ok (.sh d) st
  | _ => .no
def sRetN : EvS := fun st => .rt (.sh .non) st
def sIf (t : EvT) (a b : EvS) : EvS := fun st => (t st).thenS fun c s1 => if c = true then a s1 else b s1
def sDrop (e : EvE) : EvS := fun st => (e st).thenS fun _ s1 => .nx s1
def sBreak : EvS := fun st => .bk st
def sCont : EvS := fun st => .ct st
/-- xs.append(e), xs our own list in slot i -/
def sApp (i : Nat) (e : EvE) : EvS := fun st => match st.env[i]? with
  | some (some (.ow _)) => (e st).thenS fun v s1 => (match s1.env[i]? with
    | some (some (.ow xs)) => if xs.length < many then .nx { s1 with env := s1.env.set i (some (.ow (xs ++ [v.d]))) } else .no
    | _ => .no)
  | _ => .no
/-- c.append(e), c a cell's list -/
def sAppC (a e : EvE) : EvS := fun st => (a st).thenS fun x s1 => match x.d with
  | .cell n => (match s1.om[n]? with
    | some (.lst _) => (e s1).thenS fun v s2 => (match s2.om[n]? with
      | some (.lst xs) => if xs.length < many then .nx { s2 with om := s2.om.set n (.lst (xs ++ [v.d])) } else .no
      | _ => .no)
    | _ => .no)
  | _ => .no
/-- d[k] = e, d a cell's dict -/
def sDPut (a b e : EvE) : EvS := fun st => (e st).thenS fun v s1 => (a s1).thenS fun x s2 => (b s2).thenS fun y s3 => match x.d, y.d.ky? with
  | .cell n, some k => (match s3.om[n]? with
    | some (.dK kvs) => if kvs.length < many then .nx { s3 with om := s3.om.set n (.dK (kvPut kvs k v.d)) } else .no
    | _ => .no)
  | _, _ => .no
def forGo (g : EvG) (b : EvS) : List D → St → O
  | [], st => .nx st
  | x :: xs, st => match g x st with
    | none => .no
    | some s1 => (match b s1 with
      | .nx s2 => forGo g b xs s2
      | .ct s2 => forGo g b xs s2
      | .bk s2 => .nx s2
      | .rt v s2 => .rt v s2
      | .ex x s2 => .ex x s2
      | .no => .no)
def sFor (i : EvI) (g : EvG) (b : EvS) : EvS := fun st => (i st).thenS fun xs s1 => forGo g b xs s1
def whileGo (t : EvT) (b : EvS) : Nat → St → O
  | 0, _ => .no
  | n + 1, st => (t st).thenS fun c s1 => if c = true then (match b s1 with
      | .nx s2 => whileGo t b n s2
      | .ct s2 => whileGo t b n s2
      | .bk s2 => .nx s2
      | .rt v s2 => .rt v s2
      | .ex x s2 => .ex x s2
      | .no => .no) else .nx s1
def sWhile (n : Nat) (t : EvT) (b : EvS) : EvS := fun st => whileGo t b n st

/-- more turns than any loop takes -/
def fuel : Nat := 10 ^ 300
/-! ### defs -/
def runDef (n : Nat) (b : EvS) : Fn := fun ds om => match b { env := (ds.map fun d => some (Vl.sh d)) ++ List.replicate (n - ds.length) none, om := om } with
  | .nx st => .ok (.sh .non) st.om
  | .rt v st => .ok v st.om
  | .ex x st => .ex x st.om
  | _ => .no
end Mini

set_option linter.all false
set_option autoImplicit false
/-! PyEvX: own errors: raise. -/
namespace Mini
open PySem
/-- raise C(e), where C's __init__ keeps its one parameter in the field f -/
def sRaise1 (C f : Str) (e : EvE) : EvS := fun st => (e st).thenS fun v s1 => .ex ⟨C, [(f, v.d)]⟩ s1
def tabsOf : List Cell → List (Nat × Str)
  | [] => []
  | .tab P q :: r => (P, q) :: tabsOf r
  | .lst _ :: r => tabsOf r
  | .dK _ :: r => tabsOf r
  | .dT _ :: r => tabsOf r
/-- raised(lambda: v); Tb: all tables of code objects -/
def eRaised (Tb : List (Nat × Str)) (v : EvE) (ff : Xc → Option D) (tell : D) : EvE := fun st => if tabsOf st.om = Tb then (match v st with
    | .ok _ s1 => .ok (.sh tell) s1
    | .ex x s1 => (match ff x with
      | some d => .ok (.sh d) s1
      | none => .no)
    | .no => .no) else .no
/-- what a def tells of an error: the first clause whose class it is of; sub: is the class (left) one of those (right)? -/
def ffOf (sub : Str → Str → Bool) (other : Str) : List (Str × Str × Option Str) → Xc → Option D
  | [], _ => some (.tup [.str other])
  | (cs, s, fo) :: cl, x => if sub x.cls cs = true then (match fo with
      | none => some (.tup [.str s])
      | some f => (x.fs.lookup f).map fun v => .tup [.str s, v]) else ffOf sub other cl x
/-- x[e], x a dict of the module from texts to numbers that stays as it is -/
def eGTab (tab : List (Str × Int)) (b : EvE) : EvE := fun st => (b st).bind fun y s1 => match y.d with
  | .str z => (match tab.lookup z with
    | some i => .ok (.sh (.int i)) s1
    | none => .no)
  | _ => .no
/-- d in a list of plain data -/
def oIn : Op2 := fun x y => match y with
  | .lst ys => if x.fine deep && (D.lst ys).fine deep then some (.sh (.bl (ys.any fun z => z.eq x))) else none
  | _ => none
def oNotIn : Op2 := fun x y => match y with
  | .lst ys => if x.fine deep && (D.lst ys).fine deep then some (.sh (.bl (!(ys.any fun z => z.eq x)))) else none
  | _ => none
abbrev EvO := St → R (Option Int)
def pNone : EvO := fun st => .ok none st
def pSome (e : EvE) : EvO := fun st => (e st).bind fun x s1 => match x.d with
  | .int i => .ok (some i) s1
  | _ => .no
def sxD (n d : Nat) : Option Int → Nat
  | none => d
  | some v => if 0 ≤ v then min v.toNat n else (v + n).toNat
def cutD {α : Type} (xs : List α) (lo hi : Option Int) : List α := (xs.drop (sxD xs.length 0 lo)).take (sxD xs.length xs.length hi - sxD xs.length 0 lo)
/-- xs[lo:hi] of a list -/
def eSlL (a : EvE) (lo hi : EvO) : EvE := fun st => (a st).bind fun x s1 => (lo s1).bind fun l s2 => (hi s2).bind fun h s3 => match x.d with
  | .lst xs => .ok (.ow (cutD xs l h)) s3
  | _ => .no
/-! dicts that are cells, their keys tuples of numbers and texts -/
def D.kys : List D → Option (List Ky)
  | [] => some []
  | d :: ds => (D.ky? d).bind fun k => (D.kys ds).map (k :: ·)
def D.kt? : D → Option (List Ky)
  | .tup ds => D.kys ds
  | _ => none
def eTNew : EvE := fun st => .ok (.sh (.cell st.om.length)) { st with om := st.om ++ [.dT []] }
def eTGet (a b : EvE) : EvE := fun st => (a st).bind fun x s1 => (b s1).bind fun y s2 => match x.d, y.d.kt? with
  | .cell n, some k => (match s2.om[n]? with
    | some (.dT kvs) => (match kvGet kvs k with
      | some d => .ok (.sh d) s2
      | none => .no)
    | _ => .no)
  | _, _ => .no
/-- k in d, d -/
def eTIn (neg : Bool) (b a : EvE) : EvE := fun st => (b st).bind fun y s1 => (a s1).bind fun x s2 => match x.d, y.d.kt? with
  | .cell n, some k => (match s2.om[n]? with
    | some (.dT kvs) => .ok (.sh (.bl ((kvGet kvs k).isSome != neg))) s2
    | _ => .no)
  | _, _ => .no
/-- d[k] = e -/
def sTPut (a b e : EvE) : EvS := fun st => (e st).thenS fun v s1 => (a s1).thenS fun x s2 => (b s2).thenS fun y s3 => match x.d, y.d.kt? with
  | .cell n, some k => (match s3.om[n]? with
    | some (.dT kvs) => if kvs.length < many then .nx { s3 with om := s3.om.set n (.dT (kvPut kvs k v.d)) } else .no
    | _ => .no)
  | _, _ => .no
/-- d.setdefault(k, []) : the list that stands there, a cell, or a new one -/
def eTSetd (a b : EvE) : EvE := fun st => (a st).bind fun x s1 => match x.d with
  | .cell n => (match s1.om[n]? with
    | some (.dT _) => (b s1).bind fun y s2 => (match y.d.kt?, s2.om[n]? with
      | some k, some (.dT kvs) => if kvs.length < many then (match kvGet kvs k with
        | some d => .ok (.sh d) s2
        | none => .ok (.sh (.cell s2.om.length)) { s2 with om := (s2.om ++ [Cell.lst []]).set n (Cell.dT (kvPut kvs k (.cell s2.om.length))) }) else .no
      | _, _ => .no)
    | _ => .no)
  | _ => .no
/-- xs[b] = e, xs our own list in slot j -/
def sIxPut (j : Nat) (b e : EvE) : EvS := fun st => (e st).thenS fun v s1 => match s1.env[j]? with
  | some (some (.ow _)) => (b s1).thenS fun y s2 => (match y.d, s2.env[j]? with
    | .int i, some (some (.ow xs)) => (match ixNat xs.length i with
      | some k => .nx { s2 with env := s2.env.set j (some (.ow (xs.set k v.d))) }
      | none => .no)
    | _, _ => .no)
  | _ => .no
/-- {a: b}, a's value a tuple: a new cell -/
def eDispT (a b : EvE) : EvE := fun st => (a st).bind fun x s1 => (b s1).bind fun y s2 => match x.d.kt? with
  | some k => .ok (.sh (.cell s2.om.length)) { s2 with om := s2.om ++ [Cell.dT [(k, y.d)]] }
  | none => .no
/-- a walk along the list of cell n, as it stands at each step -/
def forCell (g : EvG) (b : EvS) (n : Nat) : Nat → Nat → St → O
  | _, 0, _ => .no
  | i, k + 1, st => match st.om[n]? with
    | some (.lst ys) => (match ys[i]? with
      | none => .nx st
      | some d => (match g d st with
        | none => .no
        | some s1 => (match b s1 with
          | .nx s2 => forCell g b n (i + 1) k s2
          | .ct s2 => forCell g b n (i + 1) k s2
          | .bk s2 => .nx s2
          | .rt v s2 => .rt v s2
          | .ex x s2 => .ex x s2
          | .no => .no)))
    | _ => .no
/-- for .. in e, e a list or a cell's list -/
def sForC (k : Nat) (e : EvE) (g : EvG) (b : EvS) : EvS := fun st => (e st).thenS fun x s1 => match x.d with
  | .lst xs => forGo g b xs s1
  | .cell n => forCell g b n 0 k s1
  | _ => .no
/-- d.get(k, c) -/
def eTGet2 (a b c : EvE) : EvE := fun st => (a st).bind fun x s1 => match x.d with
  | .cell n => (match s1.om[n]? with
    | some (.dT _) => (b s1).bind fun y s2 => (c s2).bind fun z s3 => (match y.d.kt?, s3.om[n]? with
      | some k, some (.dT kvs) => .ok (.sh ((kvGet kvs k).getD z.d)) s3
      | _, _ => .no)
    | _ => .no)
  | _ => .no
/-- zip of two lists, or of a list and a tuple -/
def iZip2 (a : EvA) : EvI := fun st => (a st).bind fun ds s1 => match ds with
  | [.lst xs, .lst ys] => .ok ((xs.zip ys).map fun p => D.tup [p.1, p.2]) s1
  | [.lst xs, .tup ys] => .ok ((xs.zip ys).map fun p => D.tup [p.1, p.2]) s1
  | _ => .no
end Mini

set_option linter.all false
set_option autoImplicit false
/-! PyEvY: pieces reckoned without an end to what is ours; divmod, sorted, min, max, [::-1]. -/
namespace Mini
open PySem PySem.W
mutual
/-- no list stands in it -/
def D.noLst : D → Bool
  | .lst _ => false
  | .scr _ => false
  | .tup xs => D.noLsts xs
  | _ => true
def D.noLsts : List D → Bool
  | [] => true
  | x :: xs => D.noLst x && D.noLsts xs
end
def Cell.noLst : Cell → Bool
  | .lst xs => D.noLsts xs
  | .dK kvs => kvs.all fun p => p.2.noLst
  | .dT kvs => kvs.all fun p => p.2.noLst
  | .tab _ _ => true
def shareEnv (env : List (Option Vl)) : List (Option Vl) := env.map fun o => match o with
  | some (.ow xs) => some (.sh (.lst xs))
  | o => o
/-- e, its value without lists: what is ours stays ours -/
def eKeep (e : EvE) : EvE := fun st => match e ⟨shareEnv st.env, st.om⟩ with
  | .ok v s1 => if v.d.noLst && s1.om.all Cell.noLst then .ok (.sh v.d) ⟨st.env, s1.om⟩ else .no
  | _ => .no
def tKeep (t : EvT) : EvT := fun st => match t ⟨shareEnv st.env, st.om⟩ with
  | .ok b s1 => if s1.om.all Cell.noLst then .ok b ⟨st.env, s1.om⟩ else .no
  | _ => .no
def bDivmod : OpA
  | [.int i, .int j] => if j ≠ 0 ∧ i.natAbs < 1073741824 ∧ j.natAbs < 1073741824 then some (.sh (.tup [.int (i.fdiv j), .int (i.fmod j)])) else none
  | _ => none
/-! the order of plain data -/
mutual
def D.pyd : D → PyData
  | .non => .none
  | .bl b => .bool b
  | .int i => .int i
  | .str x => .str x
  | .lst xs => .list (D.pyds xs)
  | .tup xs => .tuple (D.pyds xs)
  | .scr _ => .none
  | .cell _ => .none
def D.pyds : List D → List PyData
  | [] => []
  | x :: xs => D.pyd x :: D.pyds xs
end
def D.lt (x y : D) : Bool := dataLt x.pyd y.pyd
def D.isTupC : D → Bool
  | .tup (_ :: _) => true
  | _ => false
def D.isTupN : D → Bool
  | .tup _ => true
  | .non => true
  | .scr _ => true
  | .cell _ => true
  | _ => false
def allAlike (xs : List D) : Bool := xs.all fun x => xs.all fun y => alike x.pyd y.pyd
def sortable (xs : List D) : Bool := xs.all D.isTupC || xs.all fun x => !x.isTupN
def dsort (xs : List D) : List D := xs.mergeSort fun x y => !D.lt y x
def bSort : OpA
  | [.lst xs] => if (D.lst xs).fine deep && (allAlike xs && (sortable xs && decide (xs.length ≤ many))) then some (.ow (dsort xs)) else none
  | _ => none
def dmin (x : D) (xs : List D) : D := xs.foldl (fun a y => if D.lt y a = true then y else a) x
def dmax (x : D) (xs : List D) : D := xs.foldl (fun a y => if D.lt a y = true then y else a) x
def bMinL : OpA
  | [.lst (x :: xs)] => if (D.lst (x :: xs)).fine deep && (allAlike (x :: xs) && (x :: xs).all fun y => !y.isNon) then some (.sh (dmin x xs)) else none
  | _ => none
def bMaxL : OpA
  | [.lst (x :: xs)] => if (D.lst (x :: xs)).fine deep && (allAlike (x :: xs) && (x :: xs).all fun y => !y.isNon) then some (.sh (dmax x xs)) else none
  | _ => none
def eRev (e : EvE) : EvE := fun st => (e st).bind fun v s1 => match v.d with
  | .lst xs => .ok (.ow xs.reverse) s1
  | _ => .no
def eRevT (e : EvE) : EvE := fun st => (e st).bind fun v s1 => match v.d with
  | .tup xs => .ok (.sh (.tup xs.reverse)) s1
  | _ => .no
end Mini

set_option linter.all false
set_option autoImplicit false
/-! PyEvZ: two stores at once into lists of our own. -/
namespace Mini
/-- slot j's list at b := d -/
def putAt (j : Nat) (b : EvE) (d : D) : EvS := fun s1 => match s1.env[j]? with
  | some (some (.ow _)) => (b s1).thenS fun y s2 => (match y.d, s2.env[j]? with
    | .int i, some (some (.ow xs)) => (match ixNat xs.length i with
      | some k => .nx { s2 with env := s2.env.set j (some (.ow (xs.set k d))) }
      | none => .no)
    | _, _ => .no)
  | _ => .no
/-- x[b], y[c] = e -/
def sIxPut2 (i : Nat) (b : EvE) (j : Nat) (c : EvE) (e : EvE) : EvS := fun st => (e st).thenS fun v s1 => match v.d with
  | .tup [d1, d2] => (match putAt i b d1 s1 with
    | .nx s2 => putAt j c d2 s2
    | o => o)
  | _ => .no
/-- whether slot i is None; what is ours stays ours -/
def tNoneV (i : Nat) : EvT := fun st => match st.env[i]? with
  | some (some (.ow _)) => .ok false st
  | some (some (.sh d)) => .ok d.isNon st
  | _ => .no
/-- zip of two lists, or of two tuples -/
def iZip3 (a : EvA) : EvI := fun st => (a st).bind fun ds s1 => match ds with
  | [.lst xs, .lst ys] => .ok ((xs.zip ys).map fun p => D.tup [p.1, p.2]) s1
  | [.tup xs, .tup ys] => .ok ((xs.zip ys).map fun p => D.tup [p.1, p.2]) s1
  | _ => .no
end Mini

set_option Elab.async false
set_option linter.all false
set_option maxRecDepth 100000
set_option maxHeartbeats 1000000
/-! PySE1: how the evaluator's states stand in the abstract heap. -/
namespace Mini
open PySem PySem.Spec PyProof.Rows L2

def Sub (B B' : Hp) : Prop := ∀ a o, B a = some o → B' a = some o
theorem Sub.refl (B : Hp) : Sub B B := fun _ _ h => h
theorem Sub.trans {A B C : Hp} (x : Sub A B) (y : Sub B C) : Sub A C := fun a o h => y a o (x a o h)
def Pre (ρ ρ' : List Addr) : Prop := ∀ (n : Nat) (a : Addr), ρ[n]? = some a → ρ'[n]? = some a
theorem Pre.refl (ρ : List Addr) : Pre ρ ρ := fun _ _ h => h
theorem Pre.trans {a b c : List Addr} (x : Pre a b) (y : Pre b c) : Pre a c := fun n k h => y n k (x n k h)
theorem Pre.mem {ρ ρ' : List Addr} (x : Pre ρ ρ') {a : Addr} (h : a ∈ ρ) : a ∈ ρ' := by
  obtain ⟨n, hn⟩ := List.mem_iff_getElem?.mp h
  exact List.mem_iff_getElem?.mpr ⟨n, x n a hn⟩
theorem Pre.push (ρ : List Addr) (p : Addr) : Pre ρ (ρ ++ [p]) := fun n a h => by
  rw [List.getElem?_append_left (List.getElem?_eq_some_iff.mp h).1]
  exact h

mutual
/-- v is the datum d: what is read stands in B, the cells at ρ -/
inductive Rep (K : PySem.W.Frag) (B : Hp) (ρ : List Addr) : V → D → Prop
  | non : Rep K B ρ .non .non
  | bl (b : Bool) : Rep K B ρ (.bl b) (.bl b)
  | int (i : Int) : Rep K B ρ (.int i) (.int i)
  | str (x : Str) : Rep K B ρ (.str x) (.str x)
  | lst {a : Addr} {vs : List V} {ds : List D} : B a = some (.lst vs) → Reps K B ρ vs ds → Rep K B ρ (.ref a) (.lst ds)
  | tup {a : Addr} {vs : List V} {ds : List D} : B a = some (.tup vs) → Reps K B ρ vs ds → Rep K B ρ (.ref a) (.tup ds)
  | scr {a : Addr} {ns : List Int} : SqL K B a (ns.map V.int) → Rep K B ρ (.ref a) (.scr ns)
  | cell {a : Addr} {n : Nat} : ρ[n]? = some a → Rep K B ρ (.ref a) (.cell n)
inductive Reps (K : PySem.W.Frag) (B : Hp) (ρ : List Addr) : List V → List D → Prop
  | nil : Reps K B ρ [] []
  | cons {v : V} {vs : List V} {d : D} {ds : List D} : Rep K B ρ v d → Reps K B ρ vs ds → Reps K B ρ (v :: vs) (d :: ds)
end
section
variable {K : PySem.W.Frag} {B B' : Hp} {ρ ρ' : List Addr}
theorem sub_sqL {a : Addr} {xs : List V} (e : Sub B B') (h : SqL K B a xs) : SqL K B' a xs := by
  rcases h with (h | ⟨o, h⟩) | h
  · exact .inl (.inl (e _ _ h))
  · exact .inl (.inr ⟨o, e _ _ h⟩)
  · exact .inr h
mutual
theorem Rep.mono (e : Sub B B') (p : Pre ρ ρ') : ∀ {v : V} {d : D}, Rep K B ρ v d → Rep K B' ρ' v d
  | _, _, .non => .non
  | _, _, .bl b => .bl b
  | _, _, .int i => .int i
  | _, _, .str x => .str x
  | _, _, .lst h r => .lst (e _ _ h) (Reps.mono e p r)
  | _, _, .tup h r => .tup (e _ _ h) (Reps.mono e p r)
  | _, _, .scr h => .scr (sub_sqL e h)
  | _, _, .cell h => .cell (p _ _ h)
theorem Reps.mono (e : Sub B B') (p : Pre ρ ρ') : ∀ {vs : List V} {ds : List D}, Reps K B ρ vs ds → Reps K B' ρ' vs ds
  | _, _, .nil => .nil
  | _, _, .cons r t => .cons (Rep.mono e p r) (Reps.mono e p t)
end
theorem Reps.length : ∀ {vs : List V} {ds : List D}, Reps K B ρ vs ds → vs.length = ds.length
  | _, _, .nil => rfl
  | _, _, .cons _ t => by rw [List.length_cons, List.length_cons, Reps.length t]
theorem Reps.get : ∀ {vs : List V} {ds : List D} {i : Nat} {d : D}, Reps K B ρ vs ds → ds[i]? = some d → ∃ v, vs[i]? = some v ∧ Rep K B ρ v d
  | _, _, _, _, .nil, h => by simp at h
  | _, _, 0, _, .cons r _, h => by
    have e := Option.some.inj h
    subst e
    exact ⟨_, rfl, r⟩
  | _, _, i + 1, d, .cons _ t, h => by
    obtain ⟨v, h1, h2⟩ := Reps.get (i := i) (d := d) t (by simpa using h)
    exact ⟨v, by simpa using h1, h2⟩
theorem Reps.append : ∀ {vs ws : List V} {ds es : List D}, Reps K B ρ vs ds → Reps K B ρ ws es → Reps K B ρ (vs ++ ws) (ds ++ es)
  | _, _, _, _, .nil, h => h
  | _, _, _, _, .cons r t, h => .cons r (Reps.append t h)
theorem Reps.one {v : V} {d : D} (r : Rep K B ρ v d) : Reps K B ρ [v] [d] := .cons r .nil
theorem Reps.eraseIdx : ∀ {vs : List V} {ds : List D} (i : Nat), Reps K B ρ vs ds → Reps K B ρ (vs.eraseIdx i) (ds.eraseIdx i)
  | _, _, _, .nil => .nil
  | _, _, 0, .cons _ t => t
  | _, _, i + 1, .cons r t => .cons r (Reps.eraseIdx i t)
theorem Reps.drop : ∀ {vs : List V} {ds : List D} (i : Nat), Reps K B ρ vs ds → Reps K B ρ (vs.drop i) (ds.drop i)
  | _, _, 0, h => h
  | _, _, _ + 1, .nil => .nil
  | _, _, i + 1, .cons _ t => Reps.drop i t
theorem Reps.take : ∀ {vs : List V} {ds : List D} (i : Nat), Reps K B ρ vs ds → Reps K B ρ (vs.take i) (ds.take i)
  | _, _, 0, _ => .nil
  | _, _, _ + 1, .nil => .nil
  | _, _, i + 1, .cons r t => .cons r (Reps.take i t)
theorem Reps.set : ∀ {vs : List V} {ds : List D} (i : Nat) {v : V} {d : D}, Rep K B ρ v d → Reps K B ρ vs ds → Reps K B ρ (vs.set i v) (ds.set i d)
  | _, _, _, _, _, _, .nil => .nil
  | _, _, 0, _, _, q, .cons _ t => .cons q t
  | _, _, i + 1, _, _, q, .cons r t => .cons r (Reps.set i q t)
theorem Reps.rep : ∀ {vs : List V} {ds : List D} (k : Nat), Reps K B ρ vs ds → Reps K B ρ (List.replicate k vs).flatten (List.replicate k ds).flatten
  | _, _, 0, _ => .nil
  | _, _, k + 1, h => by
    rw [List.replicate_succ, List.replicate_succ, List.flatten_cons, List.flatten_cons]
    exact Reps.append h (Reps.rep k h)
end

/-! ### cells, slots, states -/
section
variable (K : PySem.W.Frag) (B : Hp) (ρ : List Addr)
def CellR (a : Addr) (c : Cell) (o : HO) : Prop :=
  match c with
  | .lst ds => ∃ vs, o = .lst vs ∧ Reps K B ρ vs ds
  | .dK kvs => ∃ kws, o = .dK kws ∧ Paired (fun (p : Key × V) (q : Ky × D) => p.1 = q.1 ∧ Rep K B ρ p.2 q.2) kws kvs
  | .dT kvs => ∃ kws, o = .dT kws ∧ Paired (fun (p : List Key × V) (q : List Ky × D) => p.1 = q.1 ∧ Rep K B ρ p.2 q.2) kws kvs
  | .tab P q => a = P ∧ ∃ ps, o = .tbl ps ∧ TriplesOk ps.toList ∧ ∀ (pos : Pos) (cv : Value), codeAmong pos ps.toList = some cv → ∃ c, cv = .ref c ∧ B c = some (LamX.CodeO c q)
def VlR (H : Hp) (x : V) (v : Vl) : Prop :=
  match v with
  | .sh d => Rep K B ρ x d
  | .ow ds => ∃ p vs, x = .ref p ∧ H p = some (.lst vs) ∧ Reps K B ρ vs ds
end
/-- B0: what was known at the entry; P: what must stay as it is -/
structure Gx where
  B0 : Hp
  P : Hp
structure Rel (K : PySem.W.Frag) (g : Gx) (B : Hp) (ρ : List Addr) (st : St) (σ : L2.St) (H : Hp) : Prop where
  len : st.env.length = σ.length
  sub : Sub B H
  prot : Sub g.P H
  new : ∀ a, B a ≠ none → g.B0 a ≠ none ∨ (g.P a = none ∨ ∃ q, B a = some (LamX.CodeO a q))
  nd : ρ.Nodup
  cl : ρ.length = st.om.length
  cell : ∀ (n : Nat) (c : Cell) (a : Addr), st.om[n]? = some c → ρ[n]? = some a → ∃ o, H a = some o ∧ CellR K B ρ a c o
  cellN : ∀ a ∈ ρ, B a = none ∧ g.P a = none
  slot : ∀ (i : Nat) (v : Vl), st.env[i]? = some (some v) → ∃ x, σ[i]? = some (some x) ∧ VlR K B ρ H x v
  own : ∀ (i : Nat) (ds : List D) (p : Addr), st.env[i]? = some (some (.ow ds)) → σ[i]? = some (some (.ref p)) → B p = none ∧ g.P p = none ∧ p ∉ ρ
  uni : ∀ (i j : Nat) (ds es : List D) (p : Addr), st.env[i]? = some (some (.ow ds)) → st.env[j]? = some (some (.ow es)) → σ[i]? = some (some (.ref p)) → σ[j]? = some (some (.ref p)) → i = j
  old : Sub g.B0 B
  tb : ∀ (b : Addr) (ps : Array Value), B b ≠ some (.tbl ps)
  tp : ∀ (b : Addr) (ps : Array Value), g.P b ≠ some (.tbl ps)
/-- p is ours alone, in no slot -/
structure Lone (g : Gx) (B : Hp) (ρ : List Addr) (st : St) (σ : L2.St) (p : Addr) : Prop where
  nb : B p = none
  np : g.P p = none
  nc : p ∉ ρ
  ns : ∀ (i : Nat) (ds : List D), st.env[i]? = some (some (.ow ds)) → σ[i]? ≠ some (some (.ref p))
/-- an expression's value -/
def OutR (K : PySem.W.Frag) (g : Gx) (B : Hp) (ρ : List Addr) (st : St) (σ : L2.St) (H : Hp) (x : V) (v : Vl) : Prop :=
  match v with
  | .sh d => Rep K B ρ x d
  | .ow ds => ∃ p vs, x = .ref p ∧ H p = some (.lst vs) ∧ Reps K B ρ vs ds ∧ Lone g B ρ st σ p

section
variable {K : PySem.W.Frag} {g : Gx} {B B' : Hp} {ρ ρ' : List Addr} {st : St} {σ : L2.St} {H H' : Hp} {p : Addr} {o : HO}
theorem lst_code {vs : List V} {p : Addr} {q : Str} : HO.lst vs ≠ LamX.CodeO p q := fun z => by unfold LamX.CodeO at z; cases z
theorem dt_code {vs : List (List Key × V)} {p : Addr} {q : Str} : HO.dT vs ≠ LamX.CodeO p q := fun z => by unfold LamX.CodeO at z; cases z
theorem dk_code {vs : List (Key × V)} {p : Addr} {q : Str} : HO.dK vs ≠ LamX.CodeO p q := fun z => by unfold LamX.CodeO at z; cases z
theorem CellR.mono {a : Addr} {c : Cell} (e : Sub B B') (q : Pre ρ ρ') (h : CellR K B ρ a c o) : CellR K B' ρ' a c o := by
  cases c with
  | lst ds =>
    obtain ⟨vs, h1, h2⟩ := h
    exact ⟨vs, h1, h2.mono e q⟩
  | dK kvs =>
    obtain ⟨kws, h1, h2⟩ := h
    exact ⟨kws, h1, Paired.mapP h2 fun _ _ z => ⟨z.1, z.2.mono e q⟩⟩
  | dT kvs =>
    obtain ⟨kws, h1, h2⟩ := h
    exact ⟨kws, h1, Paired.mapP h2 fun _ _ z => ⟨z.1, z.2.mono e q⟩⟩
  | tab P q' =>
    obtain ⟨e1, ps, e2, e3, e4⟩ := h
    exact ⟨e1, ps, e2, e3, fun pos cv hc => (e4 pos cv hc).elim fun c z => ⟨c, z.1, e _ _ z.2⟩⟩
theorem sub_upd (h : B p = none) : Sub B (upd B p o) := fun a u e => by
  rw [upd_ne (ne_of_none e h)]
  exact e
theorem Rel.noB (r : Rel K g B ρ st σ H) (h : H p = none) : B p = none := by
  cases e : B p with
  | none => rfl
  | some u =>
    have := r.sub _ _ e
    rw [h] at this
    cases this
theorem Rel.noP (r : Rel K g B ρ st σ H) (h : H p = none) : g.P p = none := by
  cases e : g.P p with
  | none => rfl
  | some u =>
    have := r.prot _ _ e
    rw [h] at this
    cases this
theorem Rel.noC (r : Rel K g B ρ st σ H) (h : H p = none) : p ∉ ρ := fun hm => by
  obtain ⟨n, hn⟩ := List.mem_iff_getElem?.mp hm
  have hl : n < st.om.length := by
    rw [← r.cl]
    exact (List.getElem?_eq_some_iff.mp hn).1
  obtain ⟨u, hu, _⟩ := r.cell n _ p (List.getElem?_eq_getElem hl) hn
  rw [h] at hu
  cases hu
theorem Rel.ownH (r : Rel K g B ρ st σ H) {i : Nat} {ds : List D} (h : st.env[i]? = some (some (.ow ds))) : ∃ p vs, σ[i]? = some (some (.ref p)) ∧ H p = some (.lst vs) ∧ Reps K B ρ vs ds := by
  obtain ⟨x, h1, p, vs, rfl, h3, h4⟩ := r.slot i _ h
  exact ⟨p, vs, h1, h3, h4⟩
theorem Rel.lone (r : Rel K g B ρ st σ H) (h : H p = none) : Lone g B ρ st σ p := ⟨r.noB h, r.noP h, r.noC h, fun i ds e z => by
  obtain ⟨q, vs, h1, h2, _⟩ := r.ownH e
  rw [z] at h1
  cases h1
  rw [h] at h2
  cases h2⟩
/-- anything new that we do not yet know, or a change of what is ours alone -/
theorem Rel.put (r : Rel K g B ρ st σ H) (l : Lone g B ρ st σ p) : Rel K g B ρ st σ (upd H p o) where
  len := r.len
  sub := fun a u e => by
    rw [upd_ne (ne_of_none e l.nb)]
    exact r.sub a u e
  prot := fun a u e => by
    rw [upd_ne (ne_of_none e l.np)]
    exact r.prot a u e
  new := r.new
  nd := r.nd
  cl := r.cl
  cell := fun n c a h1 h2 => by
    have na : a ≠ p := fun z => l.nc (z ▸ List.mem_iff_getElem?.mpr ⟨n, h2⟩)
    rw [upd_ne na]
    exact r.cell n c a h1 h2
  cellN := r.cellN
  slot := fun i v e => by
    obtain ⟨x, h1, h2⟩ := r.slot i v e
    refine ⟨x, h1, ?_⟩
    cases v with
    | sh d => exact h2
    | ow ds =>
      obtain ⟨q, vs, rfl, h4, h5⟩ := h2
      have nq : q ≠ p := fun z => l.ns i ds e (z ▸ h1)
      exact ⟨q, vs, rfl, by rw [upd_ne nq]; exact h4, h5⟩
  own := r.own
  uni := r.uni
  old := r.old
  tb := r.tb
  tp := r.tp
/-- what is ours alone is known from now on -/
theorem Rel.know (r : Rel K g B ρ st σ H) (l : Lone g B ρ st σ p) (h : H p = some o) (ho : ∀ ps, o ≠ .tbl ps := by intro _ z; cases z) : Rel K g (upd B p o) ρ st σ H := by
  have e : Sub B (upd B p o) := sub_upd l.nb
  refine ⟨r.len, fun a u z => ?_, r.prot, fun a z => ?_, r.nd, r.cl, fun n c a h1 h2 => ?_, fun a ha => ?_, fun i v z => ?_, fun i ds q h1 h2 => ?_, r.uni, r.old.trans e, fun b ps z => ?_, r.tp⟩
  · by_cases ha : a = p
    · rw [ha] at z ⊢
      rw [upd_same] at z
      rw [h]
      exact z
    · rw [upd_ne ha] at z
      exact r.sub a u z
  · by_cases ha : a = p
    · rw [ha]
      exact .inr (.inl l.np)
    · rw [upd_ne ha] at z ⊢
      exact r.new a z
  · obtain ⟨u, hu, hc⟩ := r.cell n c a h1 h2
    exact ⟨u, hu, hc.mono e (Pre.refl _)⟩
  · have na : a ≠ p := fun z => l.nc (z ▸ ha)
    rw [upd_ne na]
    exact r.cellN a ha
  · obtain ⟨x, h1, h2⟩ := r.slot i v z
    refine ⟨x, h1, ?_⟩
    cases v with
    | sh d => exact h2.mono e (Pre.refl _)
    | ow ds =>
      obtain ⟨q, vs, h3, h4, h5⟩ := h2
      exact ⟨q, vs, h3, h4, h5.mono e (Pre.refl _)⟩
  · have nq : q ≠ p := fun z => l.ns i ds h1 (z ▸ h2)
    rw [upd_ne nq]
    exact r.own i ds q h1 h2
  · by_cases hb : b = p
    · rw [hb, upd_same] at z
      exact ho ps (Option.some.inj z)
    · rw [upd_ne hb] at z
      exact r.tb b ps z
/-- a new thing that never changes -/
theorem Rel.imm (r : Rel K g B ρ st σ H) (h : H p = none) (ho : ∀ ps, o ≠ .tbl ps := by intro _ z; cases z) : Rel K g (upd B p o) ρ st σ (upd H p o) :=
  (r.put (r.lone h)).know (r.lone h) upd_same ho
theorem Sub.new (r : Rel K g B ρ st σ H) (h : H p = none) : Sub B (upd B p o) := sub_upd (r.noB h)

theorem getElem?_set' {α : Type} (l : List α) (i j : Nat) (x : α) : (l.set i x)[j]? = if i = j then (if i < l.length then some x else none) else l[j]? := by
  rw [List.getElem?_set]

/-- a slot takes a value -/
theorem Rel.setSlot (r : Rel K g B ρ st σ H) {i : Nat} {v : Vl} {x : V} (hi : i < st.env.length) (h : OutR K g B ρ st σ H x v) :
    Rel K g B ρ { st with env := st.env.set i (some v) } (σ.set i (some x)) H := by
  have hσ : i < σ.length := r.len ▸ hi
  have eE : ∀ j, (st.env.set i (some v))[j]? = if i = j then some (some v) else st.env[j]? := fun j => by
    rw [getElem?_set', if_pos hi]
  have eS : ∀ j, (σ.set i (some x))[j]? = if i = j then some (some x) else σ[j]? := fun j => by
    rw [getElem?_set', if_pos hσ]
  refine ⟨by simpa using r.len, r.sub, r.prot, r.new, r.nd, r.cl, r.cell, r.cellN, fun j w e => ?_, fun j ds q e1 e2 => ?_, fun j k ds es q e1 e2 e3 e4 => ?_, r.old, r.tb, r.tp⟩
  · have e' := (eE j).symm.trans e
    rw [eS]
    by_cases hj : i = j
    · rw [if_pos hj] at e' ⊢
      have ew : v = w := Option.some.inj (Option.some.inj e')
      subst ew
      refine ⟨x, rfl, ?_⟩
      cases v with
      | sh d => exact h
      | ow ds =>
        obtain ⟨q, vs, h1, h2, h3, _⟩ := h
        exact ⟨q, vs, h1, h2, h3⟩
    · rw [if_neg hj] at e' ⊢
      exact r.slot j w e'
  · have e1' := (eE j).symm.trans e1
    have e2' := (eS j).symm.trans e2
    by_cases hj : i = j
    · rw [if_pos hj] at e1' e2'
      have ew : v = .ow ds := Option.some.inj (Option.some.inj e1')
      subst ew
      obtain ⟨q', vs, h1, h2, h3, l⟩ := h
      have ex : x = .ref q := Option.some.inj (Option.some.inj e2')
      rw [h1] at ex
      cases ex
      exact ⟨l.nb, l.np, l.nc⟩
    · rw [if_neg hj] at e1' e2'
      exact r.own j ds q e1' e2'
  · have e1' := (eE j).symm.trans e1
    have e2' := (eE k).symm.trans e2
    have e3' := (eS j).symm.trans e3
    have e4' := (eS k).symm.trans e4
    by_cases hj : i = j
    · by_cases hk : i = k
      · omega
      · rw [if_pos hj] at e1' e3'
        rw [if_neg hk] at e2' e4'
        have ew : v = .ow ds := Option.some.inj (Option.some.inj e1')
        subst ew
        obtain ⟨q', vs, h1, h2, h3, l⟩ := h
        have ex : x = .ref q := Option.some.inj (Option.some.inj e3')
        rw [h1] at ex
        cases ex
        exact absurd e4' (l.ns k es e2')
    · by_cases hk : i = k
      · rw [if_neg hj] at e1' e3'
        rw [if_pos hk] at e2' e4'
        have ew : v = .ow es := Option.some.inj (Option.some.inj e2')
        subst ew
        obtain ⟨q', vs, h1, h2, h3, l⟩ := h
        have ex : x = .ref q := Option.some.inj (Option.some.inj e4')
        rw [h1] at ex
        cases ex
        exact absurd e3' (l.ns j ds e1')
      · rw [if_neg hj] at e1' e3'
        rw [if_neg hk] at e2' e4'
        exact r.uni j k ds es q e1' e2' e3' e4'
/-- a slot is told no more -/
theorem Rel.forget (r : Rel K g B ρ st σ H) {i : Nat} : Rel K g B ρ { st with env := st.env.set i none } σ H := by
  have eE : ∀ j v, (st.env.set i none)[j]? = some (some v) → i ≠ j ∧ st.env[j]? = some (some v) := fun j v e => by
    rw [getElem?_set'] at e
    by_cases hj : i = j
    · rw [if_pos hj] at e
      split at e
      · cases e
      · cases e
    · rw [if_neg hj] at e
      exact ⟨hj, e⟩
  refine ⟨by simpa using r.len, r.sub, r.prot, r.new, r.nd, r.cl, r.cell, r.cellN, fun j w e => r.slot j w (eE j w e).2, fun j ds q e1 e2 => r.own j ds q (eE j _ e1).2 e2, fun j k ds es q e1 e2 e3 e4 => r.uni j k ds es q (eE j _ e1).2 (eE k _ e2).2 e3 e4, r.old, r.tb, r.tp⟩
/-- our own list in slot i goes out of the slot -/
theorem Rel.takeOut (r : Rel K g B ρ st σ H) {i : Nat} {ds : List D} (e : st.env[i]? = some (some (.ow ds))) {p : Addr} (hp : σ[i]? = some (some (.ref p))) :
    Lone g B ρ { st with env := st.env.set i none } σ p := by
  obtain ⟨h1, h2, h3⟩ := r.own i ds p e hp
  refine ⟨h1, h2, h3, fun j es ej ej2 => ?_⟩
  have ej' : (st.env.set i none)[j]? = some (some (Vl.ow es)) := ej
  rw [getElem?_set'] at ej'
  by_cases hj : i = j
  · rw [if_pos hj] at ej'
    split at ej' <;> cases ej'
  · rw [if_neg hj] at ej'
    exact hj (r.uni i j ds es p e ej' hp ej2)
/-- .. comes back, changed -/
theorem Rel.backIn {i : Nat} (r : Rel K g B ρ { st with env := st.env.set i none } σ H) {ds : List D} {vs : List V} {p : Addr} (hi : i < st.env.length) (hp : σ[i]? = some (some (.ref p)))
    (l : Lone g B ρ { st with env := st.env.set i none } σ p) (h : H p = some (.lst vs)) (q : Reps K B ρ vs ds) : Rel K g B ρ { st with env := st.env.set i (some (.ow ds)) } σ H := by
  have z := r.setSlot (i := i) (v := .ow ds) (x := .ref p) (by simpa using hi) ⟨p, vs, rfl, h, q, l⟩
  have e : (σ.set i (some (V.ref p))) = σ := by
    apply List.ext_getElem?
    intro j
    rw [getElem?_set']
    by_cases hj : i = j
    · rw [if_pos hj, if_pos (by rw [← r.len]; simpa using hi), ← hj, hp]
    · rw [if_neg hj]
  rw [e] at z
  have e2 : ((st.env.set i none).set i (some (Vl.ow ds))) = st.env.set i (some (.ow ds)) := List.set_set _
  have e3 : ({ env := (st.env.set i none).set i (some (Vl.ow ds)), om := st.om } : St) = { st with env := st.env.set i (some (.ow ds)) } := congrArg (fun e => ({ env := e, om := st.om } : St)) e2
  have z' : Rel K g B ρ { env := (st.env.set i none).set i (some (Vl.ow ds)), om := st.om } σ H := z
  rw [e3] at z'
  exact z'
/-- a new cell -/
theorem Rel.newCell (r : Rel K g B ρ st σ H) (l : Lone g B ρ st σ p) {c : Cell} (h : H p = some o) (hc : CellR K B ρ p c o) : Rel K g B (ρ ++ [p]) { st with om := st.om ++ [c] } σ H := by
  have q : Pre ρ (ρ ++ [p]) := Pre.push ρ p
  refine ⟨r.len, r.sub, r.prot, r.new, ?_, by simp [r.cl], fun n c' a h1 h2 => ?_, fun a ha => ?_, fun i v e => ?_, fun i ds a e1 e2 => ?_, r.uni, r.old, r.tb, r.tp⟩
  · rw [List.nodup_append]
    refine ⟨r.nd, by simp, fun a ha b hb => ?_⟩
    have hb' : b = p := by simpa using hb
    rw [hb']
    exact fun z => l.nc (z ▸ ha)
  · have h1' : (st.om ++ [c])[n]? = some c' := h1
    by_cases hn : n < st.om.length
    · rw [List.getElem?_append_left hn] at h1'
      rw [List.getElem?_append_left (by rw [r.cl]; exact hn)] at h2
      obtain ⟨u, hu, z⟩ := r.cell n c' a h1' h2
      exact ⟨u, hu, z.mono (Sub.refl _) q⟩
    · rw [List.getElem?_append_right (by omega)] at h1'
      rw [List.getElem?_append_right (by rw [r.cl]; omega)] at h2
      have hn0 : n - st.om.length = 0 := by
        have := (List.getElem?_eq_some_iff.mp h1').1
        simp at this
        omega
      rw [hn0] at h1'
      rw [r.cl, hn0] at h2
      have e1 : c = c' := Option.some.inj h1'
      have e2 : p = a := Option.some.inj h2
      rw [← e1, ← e2]
      exact ⟨o, h, hc.mono (Sub.refl _) q⟩
  · rcases List.mem_append.mp ha with z | z
    · exact r.cellN a z
    · have z' : a = p := by simpa using z
      rw [z']
      exact ⟨l.nb, l.np⟩
  · obtain ⟨x, h1, h2⟩ := r.slot i v e
    refine ⟨x, h1, ?_⟩
    cases v with
    | sh d => exact h2.mono (Sub.refl _) q
    | ow ds =>
      obtain ⟨a, vs, h3, h4, h5⟩ := h2
      exact ⟨a, vs, h3, h4, h5.mono (Sub.refl _) q⟩
  · obtain ⟨h1, h2, h3⟩ := r.own i ds a e1 e2
    refine ⟨h1, h2, fun z => ?_⟩
    rcases List.mem_append.mp z with z | z
    · exact h3 z
    · have z' : a = p := by simpa using z
      exact l.ns i ds e1 (z' ▸ e2)
/-- a cell changes -/
theorem Rel.setCell (r : Rel K g B ρ st σ H) {n : Nat} {a : Addr} {c : Cell} (ha : ρ[n]? = some a) (hc : CellR K B ρ a c o) : Rel K g B ρ { st with om := st.om.set n c } σ (upd H a o) := by
  have hm : a ∈ ρ := List.mem_iff_getElem?.mpr ⟨n, ha⟩
  obtain ⟨nb, np⟩ := r.cellN a hm
  have hn : n < st.om.length := by
    rw [← r.cl]
    exact (List.getElem?_eq_some_iff.mp ha).1
  refine ⟨r.len, fun b u e => ?_, fun b u e => ?_, r.new, r.nd, by simpa using r.cl, fun k c' b h1 h2 => ?_, r.cellN, fun i v e => ?_, r.own, r.uni, r.old, r.tb, r.tp⟩
  · rw [upd_ne (ne_of_none e nb)]
    exact r.sub b u e
  · rw [upd_ne (ne_of_none e np)]
    exact r.prot b u e
  · have h1' : (st.om.set n c)[k]? = some c' := h1
    rw [getElem?_set'] at h1'
    by_cases hk : n = k
    · rw [if_pos hk, if_pos hn] at h1'
      have e1 : c = c' := Option.some.inj h1'
      rw [← hk, ha] at h2
      have e2 : a = b := Option.some.inj h2
      rw [← e1, ← e2, upd_same]
      exact ⟨o, rfl, hc⟩
    · rw [if_neg hk] at h1'
      have hab : b ≠ a := fun z => hk (nd_ix r.nd ha (z ▸ h2))
      rw [upd_ne hab]
      exact r.cell k c' b h1' h2
  · obtain ⟨x, h1, h2⟩ := r.slot i v e
    refine ⟨x, h1, ?_⟩
    cases v with
    | sh d => exact h2
    | ow ds =>
      obtain ⟨q, vs, h3, h4, h5⟩ := h2
      subst h3
      have hq : q ≠ a := fun z => (r.own i ds q e h1).2.2 (z ▸ hm)
      exact ⟨q, vs, rfl, by rw [upd_ne hq]; exact h4, h5⟩
end

/-! ### what is watched for a while; a call; a def's entry and end -/
section
variable {K : PySem.W.Frag} {g : Gx} {B B' : Hp} {ρ ρ' : List Addr} {st : St} {σ : L2.St} {H H' : Hp} {p : Addr} {o : HO}
/-- what is ours alone, watched -/
def Gx.guard (g : Gx) (p : Addr) (o : HO) : Gx := ⟨g.B0, upd g.P p o⟩
theorem Rel.guard (r : Rel K g B ρ st σ H) (l : Lone g B ρ st σ p) (h : H p = some o) (ho : ∀ ps, o ≠ .tbl ps := by intro _ z; cases z) : Rel K (g.guard p o) B ρ st σ H := by
  refine ⟨r.len, r.sub, fun a u e => ?_, fun a ha => ?_, r.nd, r.cl, r.cell, fun a ha => ⟨(r.cellN a ha).1, ?_⟩, r.slot, fun i ds q h1 h2 => ?_, r.uni, r.old, r.tb, fun b ps z => ?_⟩
  · have e' : upd g.P p o a = some u := e
    by_cases hb : a = p
    · rw [hb, upd_same] at e'
      rw [hb, h]
      exact e'
    · rw [upd_ne hb] at e'
      exact r.prot a u e'
  · have na : a ≠ p := fun z => ha (z ▸ l.nb)
    rcases r.new a ha with z | z | z
    · exact .inl z
    · refine .inr (.inl ?_)
      show upd g.P p o a = none
      rw [upd_ne na]
      exact z
    · exact .inr (.inr z)
  · have na : a ≠ p := fun z => l.nc (z ▸ ha)
    show upd g.P p o a = none
    rw [upd_ne na]
    exact (r.cellN a ha).2
  · obtain ⟨z1, z2, z3⟩ := r.own i ds q h1 h2
    have nq : q ≠ p := fun z => l.ns i ds h1 (z ▸ h2)
    refine ⟨z1, ?_, z3⟩
    show upd g.P p o q = none
    rw [upd_ne nq]
    exact z2
  · have z' : upd g.P p o b = some (.tbl ps) := z
    by_cases hb : b = p
    · rw [hb, upd_same] at z'
      exact ho ps (Option.some.inj z')
    · rw [upd_ne hb] at z'
      exact r.tp b ps z'
theorem Rel.unguard (r : Rel K (g.guard p o) B ρ st σ H) (h0 : g.B0 p = none) (hp : g.P p = none) (hx : ∀ q, o ≠ LamX.CodeO p q) : Rel K g B ρ st σ H ∧ H p = some o ∧ Lone g B ρ st σ p := by
  have hgp : (g.guard p o).P p = some o := upd_same
  have hne : ∀ a, (g.guard p o).P a = none → a ≠ p := fun a e z => by
    rw [z, hgp] at e
    cases e
  have hP : ∀ a, (g.guard p o).P a = none → g.P a = none := fun a e => by
    have e' : upd g.P p o a = none := e
    rwa [upd_ne (hne a e)] at e'
  have hb : B p = none := by
    cases e : B p with
    | none => rfl
    | some u =>
      rcases r.new p (by rw [e]; exact fun z => nomatch z) with z | z | ⟨q, z⟩
      · exact absurd h0 z
      · exact absurd rfl (hne p z)
      · have := (r.prot p o hgp).symm.trans (r.sub p _ z)
        exact absurd (Option.some.inj this) (hx q)
  refine ⟨⟨r.len, r.sub, fun a u e => ?_, fun a ha => ?_, r.nd, r.cl, r.cell, fun a ha => ⟨(r.cellN a ha).1, hP a (r.cellN a ha).2⟩, r.slot, fun i ds q h1 h2 => ?_, r.uni, r.old, r.tb, fun b ps z => r.tp b ps (by show upd g.P p o b = _; rw [upd_ne (ne_of_none z hp)]; exact z)⟩, r.prot p o hgp, hb, hp, fun hm => hne p (r.cellN p hm).2 rfl, fun i ds e e2 => hne p (r.own i ds p e e2).2.1 rfl⟩
  · refine r.prot a u ?_
    show upd g.P p o a = some u
    rw [upd_ne (ne_of_none e hp)]
    exact e
  · rcases r.new a ha with z | z | z
    · exact .inl z
    · exact .inr (.inl (hP a z))
    · exact .inr (.inr z)
  · obtain ⟨z1, z2, z3⟩ := r.own i ds q h1 h2
    exact ⟨z1, hP q z2, z3⟩
theorem Lone.no0 (r : Rel K g B ρ st σ H) (l : Lone g B ρ st σ p) : g.B0 p = none := by
  cases e : g.B0 p with
  | none => rfl
  | some u =>
    have := r.old _ _ e
    rw [l.nb] at this
    cases this
/-- all but the cells and the tables -/
def hide (ρ : List Addr) (H : Hp) : Hp := fun a => if a ∈ ρ then none else match H a with
  | some (.tbl _) => none
  | o => o
theorem hide_of {a : Addr} (h : a ∉ ρ) (ht : ∀ ps, H a ≠ some (.tbl ps)) : hide ρ H a = H a := by
  unfold hide
  rw [if_neg h]
  split
  · rename_i ps e
    exact absurd e (ht ps)
  · rfl
theorem hide_in {a : Addr} (h : a ∈ ρ) : hide ρ H a = none := if_pos h
theorem hide_sub : Sub (hide ρ H) H := fun a o e => by
  by_cases h : a ∈ ρ
  · rw [hide_in h] at e
    cases e
  · by_cases ht : ∃ ps, H a = some (.tbl ps)
    · obtain ⟨ps, e2⟩ := ht
      unfold hide at e
      rw [if_neg h, e2] at e
      cases e
    · rwa [hide_of h fun ps z => ht ⟨ps, z⟩] at e
theorem hide_tbl (b : Addr) (ps : Array Value) : hide ρ H b ≠ some (.tbl ps) := fun e => by
  have e2 := hide_sub _ _ e
  unfold hide at e
  split at e
  · cases e
  · rw [e2] at e
    cases e
/-- what a callee gets: no slots -/
def callG (B : Hp) (ρ : List Addr) (H : Hp) : Gx := ⟨B, hide ρ H⟩
theorem Rel.toCall (r : Rel K g B ρ st σ H) : Rel K (callG B ρ H) B ρ ⟨[], st.om⟩ [] H :=
  ⟨rfl, r.sub, hide_sub, fun a ha => .inl ha, r.nd, r.cl, r.cell, fun a ha => ⟨(r.cellN a ha).1, hide_in ha⟩, fun i v e => by simp at e, fun i ds p e _ => by simp at e, fun i j ds es p e _ _ _ => by simp at e, Sub.refl B, r.tb, hide_tbl⟩
/-- what it leaves -/
theorem Rel.ofCall {om' : List Cell} (r : Rel K g B ρ st σ H) (m : Pre ρ ρ') (c : Rel K (callG B ρ H) B' ρ' ⟨[], om'⟩ [] H') : Rel K g B' ρ' { st with om := om' } σ H' := by
  have b : Sub B B' := c.old
  have keep : ∀ a, a ∉ ρ → ∀ u, (∀ ps, u ≠ .tbl ps) → H a = some u → H' a = some u := fun a ha u nt e => c.prot a u (by show hide ρ H a = some u; rw [hide_of ha fun ps z => nt ps (Option.some.inj (e.symm.trans z))]; exact e)
  have fresh : ∀ a, (callG B ρ H).P a = none → a ∈ ρ ∨ H a = none ∨ ∃ ps, H a = some (.tbl ps) := fun a e => by
    by_cases h : a ∈ ρ
    · exact .inl h
    · by_cases ht : ∃ ps, H a = some (.tbl ps)
      · exact .inr (.inr ht)
      · refine .inr (.inl ?_)
        have e' : hide ρ H a = none := e
        rwa [hide_of h fun ps z => ht ⟨ps, z⟩] at e'
  have noP : ∀ a, (H a = none ∨ ∃ ps, H a = some (.tbl ps)) → g.P a = none := fun a e => by
    cases q : g.P a with
    | none => rfl
    | some u =>
      have := r.prot _ _ q
      rcases e with e | ⟨ps, e⟩
      · rw [e] at this
        cases this
      · rw [e] at this
        cases this
        exact absurd q (r.tp a ps)
  refine ⟨r.len, c.sub, fun a u e => ?_, fun a ha => ?_, c.nd, c.cl, c.cell, fun a ha => ⟨(c.cellN a ha).1, ?_⟩, fun i v e => ?_, fun i ds q e1 e2 => ?_, r.uni, r.old.trans b, c.tb, r.tp⟩
  · have na : a ∉ ρ := fun z => by
      rw [(r.cellN a z).2] at e
      cases e
    exact keep a na u (fun ps z => r.tp a ps (z ▸ e)) (r.prot a u e)
  · rcases c.new a ha with z | z | z
    · rcases r.new a z with z | z | ⟨q, z⟩
      · exact .inl z
      · exact .inr (.inl z)
      · exact .inr (.inr ⟨q, b _ _ z⟩)
    · rcases fresh a z with z | z
      · exact absurd ((c.cellN a (m.mem z)).1) ha
      · exact .inr (.inl (noP a z))
    · exact .inr (.inr z)
  · rcases fresh a (c.cellN a ha).2 with z | z
    · exact (r.cellN a z).2
    · exact noP a z
  · obtain ⟨x, h1, h2⟩ := r.slot i v e
    refine ⟨x, h1, ?_⟩
    cases v with
    | sh d => exact h2.mono b m
    | ow ds =>
      obtain ⟨q, vs, h3, h4, h5⟩ := h2
      subst h3
      exact ⟨q, vs, rfl, keep q (r.own i ds q e h1).2.2 _ (fun ps z => by cases z) h4, h5.mono b m⟩
  · obtain ⟨z1, z2, z3⟩ := r.own i ds q e1 e2
    obtain ⟨q', vs, h1, h2, _⟩ := r.ownH e1
    rw [h1] at e2
    cases e2
    have hH : ¬ (H q = none ∨ ∃ ps, H q = some (.tbl ps)) := by
      rw [h2]
      rintro (z | ⟨ps, z⟩) <;> cases z
    refine ⟨?_, z2, fun z => ?_⟩
    · cases e : B' q with
      | none => rfl
      | some u =>
        rcases c.new q (by rw [e]; exact fun z => nomatch z) with z | z | ⟨qn, z⟩
        · exact absurd z1 z
        · rcases fresh q z with z | z
          · exact absurd z z3
          · exact absurd z hH
        · have := (keep q z3 _ (fun ps z => by cases z) h2).symm.trans (c.sub q _ z)
          exact absurd (Option.some.inj this) lst_code
    · rcases fresh q (c.cellN q z).2 with z | z
      · exact absurd z z3
      · exact absurd z hH
theorem OutR.ofCall {om' : List Cell} {x : V} {v : Vl} (r : Rel K g B ρ st σ H) (m : Pre ρ ρ') (c : Rel K (callG B ρ H) B' ρ' ⟨[], om'⟩ [] H') (h : OutR K (callG B ρ H) B' ρ' ⟨[], om'⟩ [] H' x v) : OutR K g B' ρ' { st with om := om' } σ H' x v := by
  cases v with
  | sh d => exact h
  | ow ds =>
    obtain ⟨p, vs, h1, h2, h3, l⟩ := h
    refine ⟨p, vs, h1, h2, h3, l.nb, ?_, l.nc, fun i es e1 e2 => ?_⟩
    · by_cases hp : p ∈ ρ
      · exact absurd (m.mem hp) l.nc
      · have e : hide ρ H p = none := l.np
        cases q : g.P p with
        | none => rfl
        | some u =>
          have this := r.prot _ _ q
          rw [hide_of hp fun ps z => r.tp p ps (by rw [q]; exact this.symm.trans z)] at e
          rw [e] at this
          cases this
    · have e1' : st.env[i]? = some (some (.ow es)) := e1
      obtain ⟨q', ws, h4, h5, _⟩ := r.ownH e1'
      rw [h4] at e2
      cases e2
      have z3 := (r.own i es p e1' h4).2.2
      have e : hide ρ H p = none := l.np
      rw [hide_of z3 (fun ps z => by rw [h5] at z; cases z), h5] at e
      cases e
/-- a def's slots at the entry -/
theorem Rel.enter {N : List Str} {vs : List V} {ds : List D} {om : List Cell} (r : Rel K g B ρ ⟨[], om⟩ [] H) (h : Reps K B ρ vs ds) : Rel K g B ρ { env := (ds.map fun d => some (Vl.sh d)) ++ List.replicate (N.length - ds.length) none, om := om } (L2.start N vs) H := by
  have hl := h.length
  have key : ∀ i v, ((ds.map fun d => some (Vl.sh d)) ++ List.replicate (N.length - ds.length) none)[i]? = some (some v) → ∃ d, v = Vl.sh d ∧ ds[i]? = some d := fun i v e => by
    by_cases hi : i < ds.length
    · rw [List.getElem?_append_left (by simpa using hi), List.getElem?_map] at e
      rw [List.getElem?_eq_getElem hi] at e
      simp only [Option.map_some, Option.some.injEq] at e
      exact ⟨_, e.symm, List.getElem?_eq_getElem hi⟩
    · rw [List.getElem?_append_right (by simpa using hi)] at e
      have := List.mem_iff_getElem?.mpr ⟨_, e⟩
      have := (List.mem_replicate.mp this).2
      cases this
  refine ⟨?_, r.sub, r.prot, r.new, r.nd, r.cl, r.cell, r.cellN, fun i v e => ?_, fun i es p e _ => ?_, fun i j es fs p e _ _ _ => ?_, r.old, r.tb, r.tp⟩
  · show ((ds.map fun d => some (Vl.sh d)) ++ List.replicate (N.length - ds.length) none).length = (vs.map some ++ List.replicate (N.length - vs.length) none).length
    simp [hl]
  · obtain ⟨d, rfl, hd⟩ := key i v e
    obtain ⟨x, h1, h2⟩ := h.get hd
    refine ⟨x, ?_, h2⟩
    show (vs.map some ++ List.replicate (N.length - vs.length) none)[i]? = some (some x)
    have hi : i < vs.length := (List.getElem?_eq_some_iff.mp h1).1
    rw [List.getElem?_append_left (by simpa using hi), List.getElem?_map, h1]
    rfl
  · obtain ⟨d, h1, _⟩ := key i _ e
    cases h1
  · obtain ⟨d, h1, _⟩ := key i _ e
    cases h1
/-- .. at the end -/
theorem Rel.leave (r : Rel K g B ρ st σ H) : Rel K g B ρ ⟨[], st.om⟩ [] H :=
  ⟨rfl, r.sub, r.prot, r.new, r.nd, r.cl, r.cell, r.cellN, fun i v e => by simp at e, fun i ds p e _ => by simp at e, fun i j ds es p e _ _ _ => by simp at e, r.old, r.tb, r.tp⟩
theorem OutR.leave {x : V} {v : Vl} (h : OutR K g B ρ st σ H x v) : OutR K g B ρ ⟨[], st.om⟩ [] H x v := by
  cases v with
  | sh d => exact h
  | ow ds =>
    obtain ⟨p, vs, h1, h2, h3, l⟩ := h
    exact ⟨p, vs, h1, h2, h3, l.nb, l.np, l.nc, fun i ds e => by simp at e⟩
end

/-! ### what a part gives -/
structure Mono (B : Hp) (ρ : List Addr) (B' : Hp) (ρ' : List Addr) : Prop where
  b : Sub B B'
  r : Pre ρ ρ'
theorem Mono.refl (B : Hp) (ρ : List Addr) : Mono B ρ B ρ := ⟨Sub.refl B, Pre.refl ρ⟩
theorem Mono.trans {B B1 B2 : Hp} {ρ ρ1 ρ2 : List Addr} (a : Mono B ρ B1 ρ1) (b : Mono B1 ρ1 B2 ρ2) : Mono B ρ B2 ρ2 := ⟨a.b.trans b.b, a.r.trans b.r⟩
theorem Rep.up {K : PySem.W.Frag} {B B' : Hp} {ρ ρ' : List Addr} {v : V} {d : D} (r : Rep K B ρ v d) (m : Mono B ρ B' ρ') : Rep K B' ρ' v d := r.mono m.b m.r
theorem Reps.up {K : PySem.W.Frag} {B B' : Hp} {ρ ρ' : List Addr} {v : List V} {d : List D} (r : Reps K B ρ v d) (m : Mono B ρ B' ρ') : Reps K B' ρ' v d := r.mono m.b m.r

/-- an exception, its class cls and dict d: one of the classes that the table T names -/
abbrev XT := Str → Option Addr
def XcR (K : PySem.W.Frag) (T : XT) (B : Hp) (ρ : List Addr) (H : Hp) (x : Xc) (cls : Value) (d : Option Addr) : Prop :=
  ∃ C, T x.cls = some C ∧ cls = .ref C ∧ ((x.fs = [] ∧ d = none) ∨ ∃ a kws, d = some a ∧ B a = some (.xd kws) ∧ Paired (fun (p : Str × V) (q : Str × D) => p.1 = q.1 ∧ Rep K B ρ p.2 q.2) kws x.fs)

section
variable (K : PySem.W.Frag) (T : XT) (W : WX) (g : Gx)
/-- a part's end r, told of the reading U: O says what of the value -/
def Res {α β : Type} (B : Hp) (ρ : List Addr) (σ : L2.St) (U : (β → Hp → Prop) → Prop) (O : α → Hp → List Addr → St → Hp → β → Prop) (r : R α) : Prop :=
  match r with
  | .ok a st' => ∀ Q : β → Hp → Prop, (∀ B' ρ' x H', Mono B ρ B' ρ' → Rel K g B' ρ' st' σ H' → O a B' ρ' st' H' x → Q x H') → U Q
  | .ex xc st' => ∀ Q : β → Hp → Prop, (∀ B' ρ' cls d H', Mono B ρ B' ρ' → Rel K g B' ρ' st' σ H' → XcR K T B' ρ' H' xc cls d → W cls d σ H') → U Q
  | .no => True
end
section
variable {K : PySem.W.Frag} {T : XT} {W : WX} {g : Gx} {B : Hp} {ρ : List Addr} {σ : L2.St} {α β α' β' : Type}
theorem Res.bind {U : (β → Hp → Prop) → Prop} {O : α → Hp → List Addr → St → Hp → β → Prop} {r : R α} {U2 : β → Hp → (β' → Hp → Prop) → Prop} {O2 : α' → Hp → List Addr → St → Hp → β' → Prop} {f : α → St → R α'}
    (h : Res K T W g B ρ σ U O r) (h2 : ∀ a st' B' ρ' x H', r = .ok a st' → Mono B ρ B' ρ' → Rel K g B' ρ' st' σ H' → O a B' ρ' st' H' x → Res K T W g B' ρ' σ (U2 x H') O2 (f a st')) :
    Res K T W g B ρ σ (fun Q => U fun x H' => U2 x H' Q) O2 (r.bind f) := by
  cases r with
  | no => trivial
  | ex xc st' => exact fun Q hQ => h _ hQ
  | ok a st' =>
    show Res K T W g B ρ σ (fun Q => U fun x H' => U2 x H' Q) O2 (f a st')
    cases e : f a st' with
    | no => trivial
    | ex xc st2 =>
      intro Q hQ
      refine h _ fun B' ρ' x H' m r' o => ?_
      have z := h2 a st' B' ρ' x H' rfl m r' o
      rw [e] at z
      exact z Q fun B2 ρ2 cls d H2 m2 r2 o2 => hQ B2 ρ2 cls d H2 (m.trans m2) r2 o2
    | ok b st2 =>
      intro Q hQ
      refine h _ fun B' ρ' x H' m r' o => ?_
      have z := h2 a st' B' ρ' x H' rfl m r' o
      rw [e] at z
      exact z Q fun B2 ρ2 y H2 m2 r2 o2 => hQ B2 ρ2 y H2 (m.trans m2) r2 o2
theorem Res.imp {U : (β → Hp → Prop) → Prop} {O O' : α → Hp → List Addr → St → Hp → β → Prop} {r : R α} (h : Res K T W g B ρ σ U O r)
    (i : ∀ a st' B' ρ' x H', Rel K g B' ρ' st' σ H' → O a B' ρ' st' H' x → ∃ B2, Sub B' B2 ∧ Rel K g B2 ρ' st' σ H' ∧ O' a B2 ρ' st' H' x) : Res K T W g B ρ σ U O' r := by
  cases r with
  | no => trivial
  | ex xc st' => exact h
  | ok a st' =>
    intro Q hQ
    refine h Q fun B' ρ' x H' m r o => ?_
    obtain ⟨B2, s2, r2, o2⟩ := i a st' B' ρ' x H' r o
    exact hQ B2 ρ' x H' ⟨m.b.trans s2, m.r⟩ r2 o2
/-- an end at once -/
theorem Res.now {U : (β → Hp → Prop) → Prop} {O : α → Hp → List Addr → St → Hp → β → Prop} {a : α} {st' : St} {x : β} {B' : Hp} {ρ' : List Addr} {H' : Hp} (hU : ∀ Q : β → Hp → Prop, Q x H' → U Q) (m : Mono B ρ B' ρ') (r : Rel K g B' ρ' st' σ H') (o : O a B' ρ' st' H' x) :
    Res K T W g B ρ σ U O (.ok a st') := fun Q hQ => hU Q (hQ B' ρ' x H' m r o)
theorem Res.conv {U U' : (β → Hp → Prop) → Prop} {O : α → Hp → List Addr → St → Hp → β → Prop} {r : R α} (h : Res K T W g B ρ σ U O r) (i : ∀ Q, U Q → U' Q) : Res K T W g B ρ σ U' O r := by
  cases r with
  | no => trivial
  | ex xc st' => exact fun Q hQ => i Q (h Q hQ)
  | ok a st' => exact fun Q hQ => i Q (h Q hQ)
end
/-- values: OutR; shared: Rep of the value's datum -/
abbrev oV (K : PySem.W.Frag) (g : Gx) (σ : L2.St) : Vl → Hp → List Addr → St → Hp → V → Prop := fun v B ρ st H x => OutR K g B ρ st σ H x v
abbrev oD (K : PySem.W.Frag) : Vl → Hp → List Addr → St → Hp → V → Prop := fun v B ρ _ _ x => Rep K B ρ x v.d
abbrev oDs (K : PySem.W.Frag) : List D → Hp → List Addr → St → Hp → List V → Prop := fun ds B ρ _ _ xs => Reps K B ρ xs ds
abbrev oB : Bool → Hp → List Addr → St → Hp → Bool → Prop := fun b _ _ _ _ c => c = b
section
variable {K : PySem.W.Frag} {T : XT} {W : WX} {g : Gx} {B : Hp} {ρ : List Addr} {σ : L2.St}
theorem out_share {st : St} {H : Hp} {x : V} {v : Vl} (r : Rel K g B ρ st σ H) (o : OutR K g B ρ st σ H x v) : ∃ B2, Sub B B2 ∧ Rel K g B2 ρ st σ H ∧ Rep K B2 ρ x v.d := by
  cases v with
  | sh d => exact ⟨B, Sub.refl B, r, o⟩
  | ow ds =>
    obtain ⟨p, vs, rfl, h2, h3, l⟩ := o
    exact ⟨upd B p (.lst vs), sub_upd l.nb, r.know l h2, .lst upd_same (h3.mono (sub_upd l.nb) (Pre.refl _))⟩
theorem Res.share {U : VK → Prop} {r : R Vl} (h : Res K T W g B ρ σ U (oV K g σ) r) : Res K T W g B ρ σ U (oD K) r :=
  h.imp fun a st' B' ρ' x H' r o => out_share r o
end

/-! ### the judgements: a piece of syntax, its reading, its evaluator -/
section
variable (K : PySem.W.Frag) (T : XT) (W : WX)
def GoodE (t : TE) (e : EvE) : Prop := ∀ g B ρ st σ H, Rel K g B ρ st σ H → Res K T W g B ρ σ (t σ H) (oV K g σ) (e st)
def GoodT (t : TT) (e : EvT) : Prop := ∀ g B ρ st σ H, Rel K g B ρ st σ H → Res K T W g B ρ σ (t σ H) oB (e st)
def GoodA (t : TA) (e : EvA) : Prop := ∀ g B ρ st σ H, Rel K g B ρ st σ H → Res K T W g B ρ σ (t σ H) (oDs K) (e st)
end
section
variable {K : PySem.W.Frag} {T : XT} {W : WX}
theorem GoodE.share {t : TE} {e : EvE} (h : GoodE K T W t e) {g : Gx} {B : Hp} {ρ : List Addr} {st : St} {σ : L2.St} {H : Hp} (r : Rel K g B ρ st σ H) : Res K T W g B ρ σ (t σ H) (oD K) (e st) := (h g B ρ st σ H r).share
end
structure SE (X : Cx) (K : PySem.W.Frag) (T : XT) (W : WX) (e : Expr) (t : TE) (v : EvE) : Prop where
  pe : PE X e t
  good : GoodE K T W t v
structure ST (X : Cx) (K : PySem.W.Frag) (T : XT) (W : WX) (e : Expr) (t : TT) (v : EvT) : Prop where
  pe : PT X e t
  good : GoodT K T W t v
structure SA (X : Cx) (K : PySem.W.Frag) (T : XT) (W : WX) (es : List Expr) (t : TA) (v : EvA) : Prop where
  pe : PA X es t
  good : GoodA K T W t v
end Mini

set_option Elab.async false
set_option linter.all false
set_option maxRecDepth 100000
set_option maxHeartbeats 1000000
/-! PySE2: expressions. -/
namespace Mini
open PySem PySem.Spec PyProof.Rows L2

theorem set_self {α : Type} {l : List α} {i : Nat} {x : α} (h : l[i]? = some x) : l.set i x = l := by
  apply List.ext_getElem?
  intro j
  rw [getElem?_set']
  by_cases hj : i = j
  · rw [if_pos hj, if_pos (List.getElem?_eq_some_iff.mp h).1, ← hj, h]
  · rw [if_neg hj]
section
variable {K : PySem.W.Frag} {T : XT} {W : WX} {g : Gx} {B : Hp} {ρ : List Addr} {st : St} {σ : L2.St} {H : Hp}
/-- our own list in a slot is shared from now on -/
theorem Rel.freeze (r : Rel K g B ρ st σ H) {i : Nat} {ds : List D} (e : st.env[i]? = some (some (.ow ds))) :
    ∃ p B2, σ[i]? = some (some (.ref p)) ∧ Sub B B2 ∧ Rel K g B2 ρ { st with env := st.env.set i (some (.sh (.lst ds))) } σ H ∧ Rep K B2 ρ (.ref p) (.lst ds) := by
  obtain ⟨p, vs, h1, h2, h3⟩ := r.ownH e
  have l := r.takeOut e h1
  have r1 := (r.forget (i := i)).know l h2
  have rp : Rep K (upd B p (.lst vs)) ρ (.ref p) (.lst ds) := .lst upd_same (h3.mono (sub_upd l.nb) (Pre.refl _))
  have hi : i < st.env.length := (List.getElem?_eq_some_iff.mp e).1
  have r2 := r1.setSlot (i := i) (v := .sh (.lst ds)) (x := .ref p) (by simpa using hi) rp
  rw [set_self h1] at r2
  refine ⟨p, _, h1, sub_upd l.nb, ?_, rp⟩
  have e2 : ((st.env.set i none).set i (some (Vl.sh (.lst ds)))) = st.env.set i (some (.sh (.lst ds))) := List.set_set _
  have e3 : ({ env := (st.env.set i none).set i (some (Vl.sh (.lst ds))), om := st.om } : St) = { st with env := st.env.set i (some (.sh (.lst ds))) } := congrArg (fun e => ({ env := e, om := st.om } : St)) e2
  have r3 : Rel K g (upd B p (.lst vs)) ρ { env := (st.env.set i none).set i (some (Vl.sh (.lst ds))), om := st.om } σ H := r2
  rw [e3] at r3
  exact r3

/-! ### what a name or a constant gives -/
theorem good_no {t : TE} : GoodE K T W t eNo := fun _ _ _ _ _ _ _ => trivial
theorem good_var {i : Nat} : GoodE K T W (tVar i) (eVar i) := by
  intro g B ρ st σ H r
  unfold eVar
  split
  · rename_i d h
    obtain ⟨x, h1, h2⟩ := r.slot i _ h
    exact Res.now (x := x) (fun Q q => ⟨x, h1, q⟩) (Mono.refl _ _) r h2
  · rename_i ds h
    obtain ⟨p, B2, h1, s2, r2, rp⟩ := r.freeze h
    exact Res.now (x := .ref p) (fun Q q => ⟨_, h1, q⟩) ⟨s2, Pre.refl _⟩ r2 rp
  · trivial
theorem good_c {v : V} {d : D} (h : ∀ B ρ, Rep K B ρ v d) : GoodE K T W (tC v) (eC d) := fun g B ρ st σ H r => Res.now (x := v) (fun Q q => q) (Mono.refl _ _) r (h B ρ)
theorem good_int {i : Int} : GoodE K T W (tC (.int i)) (eInt i) := good_c fun _ _ => .int i
theorem good_str {x : Str} : GoodE K T W (tC (.str x)) (eStr x) := good_c fun _ _ => .str x
theorem good_bl {b : Bool} : GoodE K T W (tC (.bl b)) (eC (.bl b)) := good_c fun _ _ => .bl b
theorem good_non : GoodE K T W (tC .non) (eC .non) := good_c fun _ _ => .non

/-! ### operators -/
/-- an operator's reading does what f says -/
def OpG (K : PySem.W.Frag) (r : R2) (f : Op2) : Prop := ∀ g B ρ st σ H x y d e v, Rel K g B ρ st σ H → Rep K B ρ x d → Rep K B ρ y e → f d e = some v →
  ∀ Q : VK, (∀ B' x' H', Sub B B' → Rel K g B' ρ st σ H' → OutR K g B' ρ st σ H' x' v → Q x' H') → r x y H Q
def UnG (K : PySem.W.Frag) (r : V → Hp → VK → Prop) (f : Op1) : Prop := ∀ g B ρ st σ H x d v, Rel K g B ρ st σ H → Rep K B ρ x d → f d = some v →
  ∀ Q : VK, (∀ B' x' H', Sub B B' → Rel K g B' ρ st σ H' → OutR K g B' ρ st σ H' x' v → Q x' H') → r x H Q
def CallG (K : PySem.W.Frag) (r : List V → Hp → VK → Prop) (f : OpA) : Prop := ∀ g B ρ st σ H xs ds v, Rel K g B ρ st σ H → Reps K B ρ xs ds → f ds = some v →
  ∀ Q : VK, (∀ B' x' H', Sub B B' → Rel K g B' ρ st σ H' → OutR K g B' ρ st σ H' x' v → Q x' H') → r xs H Q
variable {ta tb tc : TE} {a b c : EvE}
theorem good_op {r : R2} {f : Op2} (ho : OpG K r f) (ha : GoodE K T W ta a) (hb : GoodE K T W tb b) : GoodE K T W (tOp r ta tb) (eOp f a b) := by
  intro g B ρ st σ H rel
  unfold eOp tOp
  refine Res.bind (U := ta σ H) (U2 := fun x H1 Q => tb σ H1 fun y H2 => r x y H2 Q) (O := oD K) (ha.share rel) fun v s1 B1 ρ1 x H1 _ m1 r1 o1 => ?_
  refine Res.bind (U := tb σ H1) (U2 := fun y H2 Q => r x y H2 Q) (O := oD K) (hb.share r1) fun w s2 B2 ρ2 y H2 _ m2 r2 o2 => ?_
  cases e : f v.d w.d with
  | none => trivial
  | some z => exact fun Q hQ => ho g B2 ρ2 s2 σ H2 x y _ _ z r2 (o1.up m2) o2 e Q fun B' x' H' s r' o => hQ B' ρ2 x' H' ⟨s, Pre.refl _⟩ r' o
theorem good_un {r : V → Hp → VK → Prop} {f : Op1} (ho : UnG K r f) (ha : GoodE K T W ta a) : GoodE K T W (tUn r ta) (eOp1 f a) := by
  intro g B ρ st σ H rel
  unfold eOp1 tUn
  refine Res.bind (U := ta σ H) (U2 := fun x H1 Q => r x H1 Q) (O := oD K) (ha.share rel) fun v s1 B1 ρ1 x H1 _ m1 r1 o1 => ?_
  cases e : f v.d with
  | none => trivial
  | some z => exact fun Q hQ => ho g B1 ρ1 s1 σ H1 x _ z r1 o1 e Q fun B' x' H' s r' o => hQ B' ρ1 x' H' ⟨s, Pre.refl _⟩ r' o
/-- an operator that gives a plain thing and changes nothing -/
theorem opG_sh {r : R2} {f : Op2} (h : ∀ B ρ H x y d e v, Sub B H → Rep K B ρ x d → Rep K B ρ y e → f d e = some v → ∃ x' d', v = .sh d' ∧ Rep K B ρ x' d' ∧ ∀ Q : VK, Q x' H → r x y H Q) : OpG K r f :=
  fun g B ρ st σ H x y d e v rel rx ry hf Q q => by
    obtain ⟨x', d', rfl, h2, h3⟩ := h B ρ H x y d e v rel.sub rx ry hf
    exact h3 Q (q B x' H (Sub.refl _) rel h2)
theorem unG_sh {r : V → Hp → VK → Prop} {f : Op1} (h : ∀ B ρ H x d v, Sub B H → Rep K B ρ x d → f d = some v → ∃ x' d', v = .sh d' ∧ Rep K B ρ x' d' ∧ ∀ Q : VK, Q x' H → r x H Q) : UnG K r f :=
  fun g B ρ st σ H x d v rel rx hf Q q => by
    obtain ⟨x', d', rfl, h2, h3⟩ := h B ρ H x d v rel.sub rx hf
    exact h3 Q (q B x' H (Sub.refl _) rel h2)
theorem callG_sh {r : List V → Hp → VK → Prop} {f : OpA} (h : ∀ B ρ H xs ds v, Sub B H → Reps K B ρ xs ds → f ds = some v → ∃ x' d', v = .sh d' ∧ Rep K B ρ x' d' ∧ ∀ Q : VK, Q x' H → r xs H Q) : CallG K r f :=
  fun g B ρ st σ H xs ds v rel rx hf Q q => by
    obtain ⟨x', d', rfl, h2, h3⟩ := h B ρ H xs ds v rel.sub rx hf
    exact h3 Q (q B x' H (Sub.refl _) rel h2)
theorem many_le {n : Nat} (h : n ≤ many) : n ≤ sizeLine := Nat.le_trans h (by decide)
theorem many_lt {n : Nat} (h : n < many) : n < sizeLine := Nat.lt_of_lt_of_le h (by decide)
theorem many_lt' {n : Nat} (h : n ≤ many) : n < sizeLine := Nat.lt_of_le_of_lt h (by decide)
/-- a new list -/
theorem out_new {g : Gx} {st : St} {σ : L2.St} {H : Hp} {p : Addr} {vs : List V} {ds : List D} (rel : Rel K g B ρ st σ H) (hp : H p = none) (h : Reps K B ρ vs ds) :
    Rel K g B ρ st σ (upd H p (.lst vs)) ∧ OutR K g B ρ st σ (upd H p (.lst vs)) (.ref p) (.ow ds) := ⟨rel.put (rel.lone hp), p, vs, rfl, upd_same, h, rel.lone hp⟩

def opOr (r r' : R2) : R2 := fun x y H Q => r x y H Q ∨ r' x y H Q
theorem op_or2 {X : Cx} {f : Value → Value → Sem Value} {r r' : R2} (h : OpR X f r) (h' : OpR X f r') : OpR X f (opOr r r') := fun pins s σ H x y v u Q I rx ry q => by
  rcases q with q | q
  · exact h pins s σ H x y v u Q I rx ry q
  · exact h' pins s σ H x y v u Q I rx ry q
def rAddS : R2 := fun x y H Q => ∃ i j, x = .str i ∧ y = .str j ∧ i.length + j.length ≤ sizeLine ∧ Q (.str (i ++ j)) H
def rAddA : R2 := opOr (rI0 fun i j => .int (i + j)) (opOr rAddS rCat)
theorem op_addA {X : Cx} : OpR X (binaryOp .Add) rAddA := op_or2 op_add (op_or2 op_add_str op_cat)
theorem opG_add : OpG K rAddA oAdd := by
  intro g B ρ st σ H x y d e v rel rx ry hf Q q
  unfold oAdd at hf
  split at hf
  · cases hf
    cases rx
    cases ry
    exact .inl ⟨_, _, rfl, rfl, q B _ H (Sub.refl _) rel (.int _)⟩
  · split at hf
    · rename_i hz
      cases hf
      cases rx
      cases ry
      exact .inr (.inl ⟨_, _, rfl, rfl, many_le hz, q B _ H (Sub.refl _) rel (.str _)⟩)
    · cases hf
  · split at hf
    · rename_i hz
      cases hf
      cases rx with
      | lst h1 r1 =>
        cases ry with
        | lst h2 r2 =>
          refine .inr (.inr ⟨_, _, _, _, rfl, rfl, rel.sub _ _ h1, rel.sub _ _ h2, many_le (by rw [r1.length, r2.length]; exact hz), fun p hp => ?_⟩)
          obtain ⟨r', o'⟩ := out_new rel hp (r1.append r2)
          exact q B _ _ (Sub.refl _) r' o'
    · cases hf
  · cases hf
theorem opG_sub : OpG K (rI0 fun i j => .int (i - j)) oSub := opG_sh fun B ρ H x y d e v _ rx ry hf => by
  unfold oSub at hf
  split at hf
  · cases hf
    cases rx
    cases ry
    exact ⟨_, _, rfl, .int _, fun Q q => ⟨_, _, rfl, rfl, q⟩⟩
  · cases hf
def CMulA (i j : Int) : Prop := wordOk i j = true
theorem CMulA.ok {i j : Int} (h : CMulA i j) : IntMulOk i j := by
  simp only [CMulA, wordOk, Bool.or_eq_true, decide_eq_true_eq] at h
  rcases h with h | h | h
  · exact CMul.ok (.inl ⟨by omega, by omega⟩)
  · exact CMul.ok (.inr ⟨by omega, by omega⟩)
  · exact CMulW.ok h
def rMulA : R2 := opOr (rI CMulA fun i j => .int (i * j)) rRep
theorem op_mulA {X : Cx} : OpR X (binaryOp .Mult) rMulA := op_or2 (opI fun _ _ _ _ _ _ _ hc q => mul_int q hc.ok) op_rep
theorem opG_mul : OpG K rMulA oMul := by
  intro g B ρ st σ H x y d e v rel rx ry hf Q q
  unfold oMul at hf
  split at hf
  · split at hf
    · rename_i hz
      cases hf
      cases rx
      cases ry
      exact .inl ⟨_, _, rfl, rfl, hz, q B _ H (Sub.refl _) rel (.int _)⟩
    · cases hf
  · split at hf
    · rename_i hz
      cases hf
      cases rx with
      | lst h1 r1 =>
        cases ry
        refine .inr ⟨_, _, _, rfl, rfl, rel.sub _ _ h1, by omega, by omega, many_le (by rw [r1.length]; exact hz.1), fun p hp => ?_⟩
        obtain ⟨r', o'⟩ := out_new rel hp (r1.rep _)
        exact q B _ _ (Sub.refl _) r' o'
    · cases hf
  · cases hf
theorem opG_div : OpG K (rI CDivW fun i j => .int (i / j)) oDiv := opG_sh fun B ρ H x y d e v _ rx ry hf => by
  unfold oDiv at hf
  split at hf
  · split at hf
    · rename_i hz
      cases hf
      cases rx
      cases ry
      exact ⟨_, _, rfl, .int _, fun Q q => ⟨_, _, rfl, rfl, hz, q⟩⟩
    · cases hf
  · cases hf
theorem opG_mod : OpG K (rI (fun _ j => j ≠ 0) fun i j => .int (i.fmod j)) oMod := opG_sh fun B ρ H x y d e v _ rx ry hf => by
  unfold oMod at hf
  split at hf
  · split at hf
    · cases hf
    · rename_i hz
      cases hf
      cases rx
      cases ry
      exact ⟨_, _, rfl, .int _, fun Q q => ⟨_, _, rfl, rfl, hz, q⟩⟩
  · cases hf
def CPowW (i j : Int) : Prop := 0 ≤ j ∧ (Builtin.Int.intBits i : Int) * j ≤ 2 ^ 27
theorem op_powW {X : Cx} : OpR X (binaryOp .Pow) (rI CPowW fun i j => .int (i ^ j.toNat)) := opI fun _ _ _ _ _ _ _ hc q => pow_int hc.1 hc.2 q
theorem powW_of {i j : Int} (h0 : 0 ≤ j) (h1 : j ≤ 1000) (h2 : i.natAbs.log2 < 1000) : CPowW i j := by
  refine ⟨h0, ?_⟩
  have hb : Builtin.Int.intBits i ≤ 1000 := by
    unfold Builtin.Int.intBits
    split <;> omega
  have h3 : (Builtin.Int.intBits i : Int) * j ≤ 1000 * 1000 := Int.mul_le_mul (by omega) h1 h0 (by omega)
  omega
theorem opG_pow : OpG K (rI CPowW fun i j => .int (i ^ j.toNat)) oPow := opG_sh fun B ρ H x y d e v _ rx ry hf => by
  unfold oPow at hf
  split at hf
  · split at hf
    · rename_i hz
      cases hf
      cases rx
      cases ry
      exact ⟨_, _, rfl, .int _, fun Q q => ⟨_, _, rfl, rfl, powW_of hz.1 hz.2.1 hz.2.2, q⟩⟩
    · cases hf
  · cases hf
theorem unG_neg : UnG K (rU fun i => .int (-i)) oNeg := unG_sh fun B ρ H x d v _ rx hf => by
  unfold oNeg at hf
  split at hf
  · cases hf
    cases rx
    exact ⟨_, _, rfl, .int _, fun Q q => ⟨_, rfl, q⟩⟩
  · cases hf
theorem opG_cmp {p : Int → Int → Bool} : OpG K (rI0 fun i j => .bl (p i j)) (oCmp p) := opG_sh fun B ρ H x y d e v _ rx ry hf => by
  unfold oCmp at hf
  split at hf
  · cases hf
    cases rx
    cases ry
    exact ⟨_, _, rfl, .bl _, fun Q q => ⟨_, _, rfl, rfl, q⟩⟩
  · cases hf

/-! ### equality of data -/
mutual
def D.py : D → PyData
  | .non => .none
  | .bl b => .bool b
  | .int i => .int i
  | .str x => .str x
  | .lst xs => .list (D.pys xs)
  | .tup xs => .tuple (D.pys xs)
  | .scr _ => .none
  | .cell _ => .none
def D.pys : List D → List PyData
  | [] => []
  | x :: xs => D.py x :: D.pys xs
end
theorem str_fine {x : Str} (h : strFine x = true) : PyData.strOk x = true := by
  unfold strFine at h
  rw [Bool.and_eq_true] at h
  obtain ⟨_, h⟩ := h
  unfold PyData.strOk
  rw [Array.all_eq_true] at h ⊢
  intro i hi
  have := of_decide_eq_true (h i hi)
  exact decide_eq_true (by omega)
mutual
theorem fine_eq : ∀ (n m : Nat) (d e : D), d.fine n = true → e.fine m = true → PyData.eqv d.py e.py = d.eq e
  | n, m, d, e, hd, he => by
    cases d with
    | scr _ => unfold D.fine at hd; split at hd <;> simp_all
    | cell _ => unfold D.fine at hd; split at hd <;> simp_all
    | lst xs =>
      cases e with
      | scr _ => unfold D.fine at he; split at he <;> simp_all
      | cell _ => unfold D.fine at he; split at he <;> simp_all
      | lst ys =>
        cases n with
        | zero => simp [D.fine] at hd
        | succ n =>
          cases m with
          | zero => simp [D.fine] at he
          | succ m =>
            simp only [D.fine] at hd he
            simp only [D.py, D.eq, PyData.eqv]
            exact fines_eq n m xs ys hd he
      | _ => simp [D.py, D.eq, PyData.eqv]
    | tup xs =>
      cases e with
      | scr _ => unfold D.fine at he; split at he <;> simp_all
      | cell _ => unfold D.fine at he; split at he <;> simp_all
      | tup ys =>
        cases n with
        | zero => simp [D.fine] at hd
        | succ n =>
          cases m with
          | zero => simp [D.fine] at he
          | succ m =>
            simp only [D.fine] at hd he
            simp only [D.py, D.eq, PyData.eqv]
            exact fines_eq n m xs ys hd he
      | _ => simp [D.py, D.eq, PyData.eqv]
    | _ =>
      cases e with
      | scr _ => unfold D.fine at he; split at he <;> simp_all
      | cell _ => unfold D.fine at he; split at he <;> simp_all
      | _ => simp [D.py, D.eq, PyData.eqv]
theorem fines_eq : ∀ (n m : Nat) (ds es : List D), D.fines n ds = true → D.fines m es = true → PyData.eqvAll (D.pys ds) (D.pys es) = D.eqs ds es
  | n, m, [], [], _, _ => by simp [D.pys, D.eqs, PyData.eqvAll]
  | n, m, [], _ :: _, _, _ => by simp [D.pys, D.eqs, PyData.eqvAll]
  | n, m, _ :: _, [], _, _ => by simp [D.pys, D.eqs, PyData.eqvAll]
  | n, m, d :: ds, e :: es, hd, he => by
    simp only [D.fines, Bool.and_eq_true] at hd he
    simp only [D.pys, D.eqs, PyData.eqvAll]
    rw [fine_eq n m d e hd.1 he.1, fines_eq n m ds es hd.2 he.2]
end
mutual
theorem fine_lay : ∀ (n : Nat) (d : D), d.fine n = true → d.py.canLay0 = true ∧ d.py.depth ≤ n + 1
  | n, d, hd => by
    cases d with
    | scr _ => unfold D.fine at hd; split at hd <;> simp_all
    | cell _ => unfold D.fine at hd; split at hd <;> simp_all
    | str x =>
      have hx : strFine x = true := by
        cases n <;> simpa [D.fine] using hd
      refine ⟨?_, by simp [D.py, PyData.depth]⟩
      simp only [D.py, PyData.canLay0]
      exact str_fine hx
    | lst xs =>
      cases n with
      | zero => simp [D.fine] at hd
      | succ n =>
        simp only [D.fine] at hd
        obtain ⟨h1, h2⟩ := fines_lay n xs hd
        exact ⟨by simpa [D.py, PyData.canLay0] using h1, by simp only [D.py, PyData.depth]; omega⟩
    | tup xs =>
      cases n with
      | zero => simp [D.fine] at hd
      | succ n =>
        simp only [D.fine] at hd
        obtain ⟨h1, h2⟩ := fines_lay n xs hd
        exact ⟨by simpa [D.py, PyData.canLay0] using h1, by simp only [D.py, PyData.depth]; omega⟩
    | _ => simp [D.py, PyData.canLay0, PyData.depth]
theorem fines_lay : ∀ (n : Nat) (ds : List D), D.fines n ds = true → PyData.canLayAll0 (D.pys ds) = true ∧ PyData.depthAll (D.pys ds) ≤ n + 1
  | n, [], _ => by simp [D.pys, PyData.canLayAll0, PyData.depthAll]
  | n, d :: ds, hd => by
    simp only [D.fines, Bool.and_eq_true] at hd
    obtain ⟨h1, h2⟩ := fine_lay n d hd.1
    obtain ⟨h3, h4⟩ := fines_lay n ds hd.2
    refine ⟨by simp [D.pys, PyData.canLayAll0, h1, h3], ?_⟩
    simp only [D.pys, PyData.depthAll]
    omega
end
theorem shaped_of {d : D} (h : d.fine deep = true) : SeqAt.shaped d.py = true := by
  obtain ⟨h1, h2⟩ := fine_lay deep d h
  unfold SeqAt.shaped
  rw [h1, Bool.true_and]
  unfold deep at h2
  exact decide_eq_true (by omega)
section
variable {K : PySem.W.Frag} {B : Hp} {ρ : List Addr} {H : Hp}
mutual
theorem Rep.dp (s : Sub B H) : ∀ (n : Nat) (v : V) (d : D), Rep K B ρ v d → d.fine n = true → Dp K H v d.py
  | n, _, _, .non, _ => .non
  | n, _, _, .bl b, _ => .bl b
  | n, _, _, .int i, _ => .int i
  | n, _, _, .str x, _ => .str x
  | n, _, _, .lst h r, hf => by
    cases n with
    | zero => simp [D.fine] at hf
    | succ n =>
      simp only [D.fine] at hf
      simp only [D.py]
      exact .lst (SqL.of (s _ _ h)) (Reps.dp s n _ _ r hf)
  | n, _, _, .tup h r, hf => by
    cases n with
    | zero => simp [D.fine] at hf
    | succ n =>
      simp only [D.fine] at hf
      simp only [D.py]
      exact .tup (SqT.of (s _ _ h)) (Reps.dp s n _ _ r hf)
  | n, _, _, .scr h, hf => by unfold D.fine at hf; split at hf <;> simp_all
  | n, _, _, .cell h, hf => by unfold D.fine at hf; split at hf <;> simp_all
theorem Reps.dp (s : Sub B H) : ∀ (n : Nat) (vs : List V) (ds : List D), Reps K B ρ vs ds → D.fines n ds = true → DpAll K H vs (D.pys ds)
  | n, _, _, .nil, _ => .nil
  | n, _, _, .cons r t, hf => by
    simp only [D.fines, Bool.and_eq_true] at hf
    simp only [D.pys]
    exact .cons (Rep.dp s n _ _ r hf.1) (Reps.dp s n _ _ t hf.2)
end
theorem opG_eq : OpG K (rEqD K) oEq := opG_sh fun B ρ H x y d e v s rx ry hf => by
  unfold oEq at hf
  split at hf
  · rename_i hz
    rw [Bool.and_eq_true] at hz
    cases hf
    refine ⟨_, _, rfl, .bl _, fun Q q => ⟨d.py, e.py, rx.dp s deep _ _ hz.1, ry.dp s deep _ _ hz.2, shaped_of hz.1, shaped_of hz.2, ?_⟩⟩
    rw [fine_eq deep deep d e hz.1 hz.2]
    exact q
  · cases hf
theorem opG_ne : OpG K (rNeD K) oNe := opG_sh fun B ρ H x y d e v s rx ry hf => by
  unfold oNe at hf
  split at hf
  · rename_i hz
    rw [Bool.and_eq_true] at hz
    cases hf
    refine ⟨_, _, rfl, .bl _, fun Q q => ⟨d.py, e.py, rx.dp s deep _ _ hz.1, ry.dp s deep _ _ hz.2, shaped_of hz.1, shaped_of hz.2, ?_⟩⟩
    rw [fine_eq deep deep d e hz.1 hz.2]
    exact q
  · cases hf
end
end
end Mini

set_option Elab.async false
set_option linter.all false
set_option maxRecDepth 100000
set_option maxHeartbeats 1000000
/-! PySE3: displays, subscripts, dicts, tests, built-ins, calls. -/
namespace Mini
open PySem PySem.Spec PyProof.Rows L2
section
variable {K : PySem.W.Frag} {T : XT} {W : WX} {ta tb tc : TE} {a b c : EvE} {va : TA} {l : EvA}

theorem good_nil : GoodA K T W tNil aNil := fun g B ρ st σ H r => Res.now (x := []) (fun Q q => q) (Mono.refl _ _) r .nil
theorem good_cons (ha : GoodE K T W ta a) (hl : GoodA K T W va l) : GoodA K T W (tCons ta va) (aCons a l) := by
  intro g B ρ st σ H rel
  unfold aCons tCons
  refine Res.bind (U := ta σ H) (U2 := fun x H1 Q => va σ H1 fun xs H2 => Q (x :: xs) H2) (O := oD K) (ha.share rel) fun v s1 B1 ρ1 x H1 _ m1 r1 o1 => ?_
  refine Res.bind (U := va σ H1) (U2 := fun xs H2 Q => Q (x :: xs) H2) (O := oDs K) (hl g B1 ρ1 s1 σ H1 r1) fun ds s2 B2 ρ2 xs H2 _ m2 r2 o2 => ?_
  exact Res.now (x := x :: xs) (fun Q q => q) (Mono.refl _ _) r2 (.cons (o1.up m2) o2)
theorem good_tup (hl : GoodA K T W va l) : GoodE K T W (tTup va) (eTup l) := by
  intro g B ρ st σ H rel
  unfold eTup tTup
  refine Res.bind (U := va σ H) (U2 := fun xs H1 Q => xs.length ≤ sizeLine ∧ ∀ p, H1 p = none → Q (V.ref p) (upd H1 p (.tup xs))) (O := oDs K) (hl g B ρ st σ H rel) fun ds s1 B1 ρ1 xs H1 _ m1 r1 o1 => ?_
  split
  · rename_i hz
    refine fun Q hQ => ⟨many_le (by rw [o1.length]; exact hz), fun p hp => ?_⟩
    exact hQ (upd B1 p (.tup xs)) ρ1 (.ref p) _ ⟨Sub.new r1 hp, Pre.refl _⟩ (r1.imm hp) (.tup upd_same (o1.mono (Sub.new r1 hp) (Pre.refl _)))
  · trivial
theorem good_lst (hl : GoodA K T W va l) : GoodE K T W (tLst va) (eLst l) := by
  intro g B ρ st σ H rel
  unfold eLst tLst
  refine Res.bind (U := va σ H) (U2 := fun xs H1 Q => xs.length ≤ sizeLine ∧ ∀ p, H1 p = none → Q (V.ref p) (upd H1 p (.lst xs))) (O := oDs K) (hl g B ρ st σ H rel) fun ds s1 B1 ρ1 xs H1 _ m1 r1 o1 => ?_
  split
  · rename_i hz
    refine fun Q hQ => ⟨many_le (by rw [o1.length]; exact hz), fun p hp => ?_⟩
    obtain ⟨r', o'⟩ := out_new r1 hp o1
    exact hQ B1 ρ1 (.ref p) _ (Mono.refl _ _) r' o'
  · trivial
theorem get_push {α : Type} (l : List α) (x : α) : (l ++ [x])[l.length]? = some x := by simp
theorem good_lstC (hl : GoodA K T W va l) : GoodE K T W (tLst va) (eLstC l) := by
  intro g B ρ st σ H rel
  unfold eLstC tLst
  refine Res.bind (U := va σ H) (U2 := fun xs H1 Q => xs.length ≤ sizeLine ∧ ∀ p, H1 p = none → Q (V.ref p) (upd H1 p (.lst xs))) (O := oDs K) (hl g B ρ st σ H rel) fun ds s1 B1 ρ1 xs H1 _ m1 r1 o1 => ?_
  split
  · rename_i hz
    refine fun Q hQ => ⟨many_le (by rw [o1.length]; exact hz), fun p hp => ?_⟩
    have lo := r1.lone hp
    have r' := (r1.put (o := .lst xs) lo).newCell (c := .lst ds) ⟨lo.nb, lo.np, lo.nc, lo.ns⟩ upd_same ⟨xs, rfl, o1⟩
    refine hQ B1 (ρ1 ++ [p]) (.ref p) _ ⟨Sub.refl _, Pre.push _ _⟩ r' (.cell ?_)
    rw [← r1.cl]
    exact get_push _ _
  · trivial

/-! ### subscripts -/
theorem ixN_eq (n : Nat) (i : Int) : ixN n i = ixNat n i := rfl
theorem Reps.atI {B : Hp} {ρ : List Addr} {vs : List V} {ds : List D} {i : Int} {d : D} (r : Reps K B ρ vs ds) (h : atIx ds i = some d) : ∃ v, L2.atI vs i = some v ∧ Rep K B ρ v d := by
  unfold atIx at h
  cases e : ixNat ds.length i with
  | none => rw [e] at h; cases h
  | some j =>
    rw [e] at h
    have h' : ds[j]? = some d := h
    obtain ⟨v, h1, h2⟩ := r.get h'
    refine ⟨v, ?_, h2⟩
    unfold L2.atI
    rw [ixN_eq, r.length, e]
    exact h1
theorem opG_ix : OpG K (rIx K) oIx := opG_sh fun B ρ H x y d e v s rx ry hf => by
  unfold oIx at hf
  split at hf
  · rename_i xs i
    cases e2 : atIx xs i with
    | none => rw [e2] at hf; cases hf
    | some z =>
      rw [e2] at hf
      cases hf
      cases rx with
      | lst h1 r1 =>
        cases ry
        obtain ⟨w, h3, h4⟩ := r1.atI e2
        exact ⟨w, z, rfl, h4, fun Q q => .inl ⟨_, _, _, _, rfl, rfl, SqL.of (s _ _ h1), h3, q⟩⟩
  · rename_i xs i
    cases e2 : atIx xs i with
    | none => rw [e2] at hf; cases hf
    | some z =>
      rw [e2] at hf
      cases hf
      cases rx with
      | tup h1 r1 =>
        cases ry
        obtain ⟨w, h3, h4⟩ := r1.atI e2
        exact ⟨w, z, rfl, h4, fun Q q => .inr (.inl ⟨_, _, _, _, rfl, rfl, SqT.of (s _ _ h1), h3, q⟩)⟩
  · rename_i xs i
    cases e2 : atIx xs i with
    | none => rw [e2] at hf; cases hf
    | some z =>
      rw [e2] at hf
      cases hf
      cases rx with
      | scr h1 =>
        cases ry
        refine ⟨.int z, _, rfl, .int z, fun Q q => .inl ⟨_, _, _, _, rfl, rfl, sub_sqL s h1, ?_, q⟩⟩
        unfold L2.atI
        unfold atIx at e2
        rw [ixN_eq, List.length_map]
        cases e3 : ixNat xs.length i with
        | none => rw [e3] at e2; cases e2
        | some j =>
          rw [e3] at e2
          have e4 : xs[j]? = some z := e2
          show (xs.map V.int)[j]? = some (.int z)
          rw [List.getElem?_map, e4]
          rfl
  · cases hf
def rLenA (K : PySem.W.Frag) : List V → Hp → VK → Prop := fun xs H Q => ∃ x n, xs = [x] ∧ LenV K x H n ∧ Q (.int n) H
theorem callG_len : CallG K (rLenA K) bLen := callG_sh fun B ρ H xs ds v s r hf => by
  unfold bLen at hf
  split at hf
  · cases r with
    | cons r rr =>
      cases rr
      unfold oLen at hf
      split at hf
      · cases hf
        cases r with
        | lst h1 r1 => exact ⟨_, _, rfl, .int _, fun Q q => ⟨_, _, rfl, .inl ⟨_, SqL.of (s _ _ h1), r1.length.symm⟩, q⟩⟩
      · cases hf
        cases r with
        | tup h1 r1 => exact ⟨_, _, rfl, .int _, fun Q q => ⟨_, _, rfl, .inr ⟨_, SqT.of (s _ _ h1), r1.length.symm⟩, q⟩⟩
      · cases hf
        cases r with
        | scr h1 => exact ⟨_, _, rfl, .int _, fun Q q => ⟨_, _, rfl, .inl ⟨_, sub_sqL s h1, by rw [List.length_map]⟩, q⟩⟩
      · split at hf
        · rename_i hz
          cases hf
          cases r
          exact ⟨_, _, rfl, .int _, fun Q q => ⟨_, _, rfl, ⟨many_le hz, rfl⟩, q⟩⟩
        · cases hf
      · cases hf
  · cases hf
theorem Rel.look {g : Gx} {B : Hp} {ρ : List Addr} {st : St} {σ : L2.St} {H : Hp} (r : Rel K g B ρ st σ H) {i : Nat} {ds : List D} (h : st.look i = some ds) : ∃ p vs, σ[i]? = some (some (.ref p)) ∧ H p = some (.lst vs) ∧ Reps K B ρ vs ds := by
  unfold St.look at h
  split at h
  · rename_i xs e
    cases h
    obtain ⟨x, h1, h2⟩ := r.slot i _ e
    cases h2 with
    | lst h3 h4 => exact ⟨_, _, h1, r.sub _ _ h3, h4⟩
  · rename_i xs e
    cases h
    exact r.ownH e
  · cases h
theorem good_lenV {i : Nat} : GoodE K T W (tCB (rLenA K) (tCons (tVar i) tNil)) (eLenV i) := by
  intro g B ρ st σ H r
  unfold eLenV
  split
  · rename_i ds e
    obtain ⟨p, vs, h1, h2, h3⟩ := r.look e
    exact Res.now (x := .int ds.length) (fun Q q => ⟨_, h1, _, _, rfl, .inl ⟨_, SqL.of h2, h3.length.symm⟩, q⟩) (Mono.refl _ _) r (.int _)
  · trivial

/-! ### dicts that are cells -/
theorem D.ky_rep {B : Hp} {ρ : List Addr} {v : V} {d : D} {k : Ky} (r : Rep K B ρ v d) (h : d.ky? = some k) : v = kV k := by
  cases r <;> simp [D.ky?] at h <;> subst h <;> rfl
theorem kv_get {κ : Type} [DecidableEq κ] {B : Hp} {ρ : List Addr} : ∀ {kws : List (κ × V)} {kvs : List (κ × D)} {k : κ} {d : D}, Paired (fun (p : κ × V) (q : κ × D) => p.1 = q.1 ∧ Rep K B ρ p.2 q.2) kws kvs → kvGet kvs k = some d → ∃ v, valV kws k = some v ∧ Rep K B ρ v d := by
  intro kws kvs k d h
  induction h with
  | nil => intro e; cases e
  | @cons p q ps qs pq t ih =>
    intro e
    unfold kvGet at e
    rw [List.find?_cons] at e
    by_cases hq : q.1 = k
    · rw [decide_eq_true hq] at e
      have e' : q.2 = d := Option.some.inj e
      exact ⟨p.2, valV_pos (pq.1.trans hq), e' ▸ pq.2⟩
    · rw [decide_eq_false hq] at e
      rw [valV_neg (fun z => hq (pq.1.symm.trans z))]
      exact ih e
theorem kv_any {κ : Type} [DecidableEq κ] {B : Hp} {ρ : List Addr} {kws : List (κ × V)} {kvs : List (κ × D)} {k : κ} (h : Paired (fun (p : κ × V) (q : κ × D) => p.1 = q.1 ∧ Rep K B ρ p.2 q.2) kws kvs) : (kws.any fun kv => decide (kv.1 = k)) = (kvs.any fun kv => decide (kv.1 = k)) := by
  induction h with
  | nil => rfl
  | @cons p q ps qs pq t ih => rw [List.any_cons, List.any_cons, ih, pq.1]
theorem kv_map {κ : Type} [DecidableEq κ] {B : Hp} {ρ : List Addr} {kws : List (κ × V)} {kvs : List (κ × D)} {k : κ} {v : V} {d : D} (r : Rep K B ρ v d) (h : Paired (fun (p : κ × V) (q : κ × D) => p.1 = q.1 ∧ Rep K B ρ p.2 q.2) kws kvs) :
    Paired (fun (p : κ × V) (q : κ × D) => p.1 = q.1 ∧ Rep K B ρ p.2 q.2) (kws.map (fun kv => if kv.1 = k then (kv.1, v) else kv)) (kvs.map (fun kv => if kv.1 = k then (kv.1, d) else kv)) := by
  induction h with
  | nil => exact .nil
  | @cons p q ps qs pq t ih =>
    rw [List.map_cons, List.map_cons]
    refine .cons ?_ ih
    by_cases hq : q.1 = k
    · rw [if_pos (pq.1.trans hq), if_pos hq]
      exact ⟨pq.1, r⟩
    · rw [if_neg (fun z => hq (pq.1.symm.trans z)), if_neg hq]
      exact pq
theorem kv_put {κ : Type} [DecidableEq κ] {B : Hp} {ρ : List Addr} {kws : List (κ × V)} {kvs : List (κ × D)} {k : κ} {v : V} {d : D} (r : Rep K B ρ v d) (h : Paired (fun (p : κ × V) (q : κ × D) => p.1 = q.1 ∧ Rep K B ρ p.2 q.2) kws kvs) :
    Paired (fun (p : κ × V) (q : κ × D) => p.1 = q.1 ∧ Rep K B ρ p.2 q.2) (putK kws k v) (kvPut kvs k d) := by
  unfold putK kvPut
  rw [kv_any h]
  split
  · exact kv_map r h
  · exact h.snoc ⟨rfl, r⟩
theorem good_dget (ha : GoodE K T W ta a) (hb : GoodE K T W tb b) : GoodE K T W (tDGet ta tb) (eDGet a b) := by
  intro g B ρ st σ H rel
  unfold eDGet tDGet
  refine Res.bind (U := ta σ H) (U2 := fun x H1 Q => tb σ H1 fun y H2 => ∃ a v, x = V.ref a ∧ DGet H2 a y (some v) ∧ Q v H2) (O := oD K) (ha.share rel) fun v s1 B1 ρ1 x H1 _ m1 r1 o1 => ?_
  refine Res.bind (U := tb σ H1) (U2 := fun y H2 Q => ∃ a v, x = V.ref a ∧ DGet H2 a y (some v) ∧ Q v H2) (O := oD K) (hb.share r1) fun w s2 B2 ρ2 y H2 _ m2 r2 o2 => ?_
  have o1 : Rep K B2 ρ2 x v.d := o1.up m2
  split
  · rename_i n k e1 e2
    have o1' := o1
    rw [e1] at o1'
    cases o1' with
    | cell hn =>
      split
      · rename_i kvs hc
        obtain ⟨u, hu, kws, e3, hp⟩ := r2.cell n _ _ hc hn
        subst e3
        split
        · rename_i d hd
          obtain ⟨z, hz1, hz2⟩ := kv_get hp hd
          refine Res.now (x := z) (fun Q q => ⟨_, z, rfl, ?_, q⟩) (Mono.refl _ _) r2 hz2
          rw [D.ky_rep o2 e2, ← hz1]
          exact DGet.k hu
        · trivial
      · trivial
  · trivial
/-- the values of a display of texts' keys -/
def GoodP (K : PySem.W.Frag) (T : XT) (W : WX) (trs : List (TE × TE)) (ks : List Str) (l : EvA) : Prop := ∀ g B ρ st σ H, Rel K g B ρ st σ H →
  Res K T W g B ρ σ (tPairs trs σ H) (fun ds B' ρ' _ _ ps => ∃ vs, ps = (ks.zip vs).map (fun kv => (V.str kv.1, kv.2)) ∧ vs.length = ks.length ∧ Reps K B' ρ' vs ds) (l st)
theorem good_pnil : GoodP K T W [] [] aNil := fun g B ρ st σ H r => Res.now (x := []) (fun Q q => q) (Mono.refl _ _) r ⟨[], rfl, rfl, .nil⟩
theorem good_pcons {trs : List (TE × TE)} {ks : List Str} {k : Str} (ha : GoodE K T W ta a) (hl : GoodP K T W trs ks l) : GoodP K T W ((tC (.str k), ta) :: trs) (k :: ks) (aCons a l) := by
  intro g B ρ st σ H rel
  unfold aCons
  show Res K T W g B ρ σ (fun Q => ta σ H fun y H2 => tPairs trs σ H2 fun ps H3 => Q ((.str k, y) :: ps) H3) _ _
  refine Res.bind (U := ta σ H) (U2 := fun y H2 Q => tPairs trs σ H2 fun ps H3 => Q ((V.str k, y) :: ps) H3) (O := oD K) (ha.share rel) fun v s1 B1 ρ1 x H1 _ m1 r1 o1 => ?_
  refine Res.bind (U := tPairs trs σ H1) (U2 := fun ps H2 Q => Q ((V.str k, x) :: ps) H2) (hl g B1 ρ1 s1 σ H1 r1) fun ds s2 B2 ρ2 ps H2 _ m2 r2 o2 => ?_
  obtain ⟨vs, e1, e2, e3⟩ := o2
  refine Res.now (x := (V.str k, x) :: ps) (fun Q q => q) (Mono.refl _ _) r2 ⟨x :: vs, ?_, ?_, .cons (o1.up m2) e3⟩
  · rw [e1]
    rfl
  · rw [List.length_cons, List.length_cons, e2]
theorem merge_rep {B : Hp} {ρ : List Addr} : ∀ {ks : List Str} {vs : List V} {ds : List D} {kws : List (Key × V)} {kvs : List (Ky × D)}, Reps K B ρ vs ds → Paired (fun (p : Key × V) (q : Ky × D) => p.1 = q.1 ∧ Rep K B ρ p.2 q.2) kws kvs →
    Paired (fun (p : Key × V) (q : Ky × D) => p.1 = q.1 ∧ Rep K B ρ p.2 q.2) (mergeK kws ((ks.zip vs).map fun kv => (Sum.inr kv.1, kv.2))) ((ks.zip ds).foldl (fun acc kv => kvPut acc (Sum.inr kv.1 : Ky) kv.2) kvs)
  | [], _, _, _, _, _, h => h
  | k :: ks, _, _, _, _, .nil, h => h
  | k :: ks, _, _, _, _, .cons r t, h => by
    show Paired _ (mergeK (putK _ (Sum.inr k) _) ((ks.zip _).map fun kv => (Sum.inr kv.1, kv.2))) ((ks.zip _).foldl (fun acc kv => kvPut acc (Sum.inr kv.1 : Ky) kv.2) (kvPut _ (Sum.inr k : Ky) _))
    exact merge_rep t (kv_put r h)
theorem good_disp {trs : List (TE × TE)} {ks : List Str} (hl : GoodP K T W trs ks l) : GoodE K T W (tDisp trs) (eDisp ks l) := by
  intro g B ρ st σ H rel
  unfold eDisp
  -- the empty dict, watched while the values are made
  have body : ∀ p, H p = none → Res K T W (g.guard p (.dK [])) B ρ σ (tPairs trs σ (upd H p (.dK []))) (fun ds B' ρ' _ _ ps => ∃ vs, ps = (ks.zip vs).map (fun kv => (V.str kv.1, kv.2)) ∧ vs.length = ks.length ∧ Reps K B' ρ' vs ds) (l st) := fun p hp =>
    hl _ B ρ st σ _ ((rel.put (rel.lone hp)).guard ⟨rel.noB hp, rel.noP hp, rel.noC hp, (rel.lone hp).ns⟩ upd_same)
  cases e : l st with
  | no => trivial
  | ex xc s1 =>
    intro Q hQ p hp
    have z := body p hp
    rw [e] at z
    refine z _ fun B' ρ' cls d H' m r o => ?_
    obtain ⟨r', _, _⟩ := r.unguard ((rel.lone hp).no0 rel) (rel.noP hp) fun _ => dk_code
    exact hQ B' ρ' cls d H' m r' o
  | ok ds s1 =>
    show Res K T W g B ρ σ (tDisp trs σ H) (oV K g σ) (if ds.length = ks.length ∧ ks.length ≤ 15 then _ else _)
    split
    · rename_i hz
      intro Q hQ p hp
      have z := body p hp
      rw [e] at z
      refine z _ fun B' ρ' ps H' m r o => ?_
      obtain ⟨r', h1, lo⟩ := r.unguard ((rel.lone hp).no0 rel) (rel.noP hp) fun _ => dk_code
      obtain ⟨vs, e1, e2, e3⟩ := o
      refine ⟨h1, (ks.zip vs).map (fun kv => (Sum.inr kv.1, kv.2)), ?_, ?_, ?_⟩
      · rw [e1, List.map_map]
        rfl
      · rw [List.length_map, List.length_zip, e2, Nat.min_self]
        exact hz.2
      · have r2 := (r'.put (o := .dK (mergeK [] ((ks.zip vs).map fun kv => (Sum.inr kv.1, kv.2)))) lo).newCell (c := .dK ((ks.zip ds).foldl (fun acc kv => kvPut acc (Sum.inr kv.1 : Ky) kv.2) [])) lo upd_same ⟨_, rfl, merge_rep e3 .nil⟩
        refine hQ B' (ρ' ++ [p]) (.ref p) _ ⟨m.b, m.r.trans (Pre.push _ _)⟩ r2 (.cell ?_)
        rw [← r'.cl]
        exact get_push _ _
    · trivial
theorem seq_nat {i : Int} {n k : Nat} (h0 : 0 ≤ i) (hk : i.toNat = k) (hn : k < n) : seqIndex? i n = some k := by
  unfold seqIndex?
  have e1 : ¬ i < 0 := by omega
  simp only [e1, if_false]
  have e2 : (0 : Int) ≤ i ∧ i < (n : Int) := by omega
  simp [e2, hk]
theorem Reps.len_of {B : Hp} {ρ : List Addr} {vs : List V} {ds : List D} {k : Nat} {d : D} (r : Reps K B ρ vs ds) (h : ds[k]? = some d) : k < vs.length := by
  rw [r.length]
  exact (List.getElem?_eq_some_iff.mp h).1
theorem good_popC (ha : GoodE K T W ta a) (hb : GoodE K T W tb b) : GoodE K T W (tBM K "list" rPopAt ta (tCons tb tNil)) (ePopC a b) := by
  intro g B ρ st σ H rel
  unfold ePopC tBM
  refine Res.bind (U := ta σ H) (U2 := fun x H1 Q => tyV K "list" x H1 ∧ tCons tb tNil σ H1 fun xs H2 => rPopAt x xs H2 Q) (O := oD K) (ha.share rel) fun v s1 B1 ρ1 x H1 _ m1 r1 o1 => ?_
  have o1 : Rep K B1 ρ1 x v.d := o1
  split
  · rename_i n e1
    rw [e1] at o1
    cases o1 with
    | @cell ad _ hn =>
      split
      · rename_i xs0 hc0
        obtain ⟨u, hu, vs0, e3, hp0⟩ := r1.cell n _ _ hc0 hn
        subst e3
        refine Res.conv (U := fun Q => tb σ H1 fun y H2 => rPopAt (.ref ad) [y] H2 Q) ?_ fun Q q => ⟨.inl ⟨rfl, _, SqL.of hu⟩, q⟩
        refine Res.bind (U := tb σ H1) (U2 := fun y H2 Q => rPopAt (V.ref ad) [y] H2 Q) (O := oD K) (hb.share r1) fun w s2 B2 ρ2 y H2 _ m2 r2 o2 => ?_
        have o2 : Rep K B2 ρ2 y w.d := o2
        split
        · rename_i i xs e4 hc
          rw [e4] at o2
          cases o2
          have hn2 := m2.r _ _ hn
          obtain ⟨u2, hu2, vs, e5, hp⟩ := r2.cell n _ _ hc hn2
          subst e5
          split
          · rename_i hi
            split
            · rename_i d hd
              obtain ⟨z, hz1, hz2⟩ := hp.get hd
              have r3 := r2.setCell (c := .lst (xs.eraseIdx i.toNat)) (o := .lst (vs.eraseIdx i.toNat)) hn2 ⟨_, rfl, hp.eraseIdx _⟩
              exact Res.now (x := z) (fun Q q => ⟨_, _, _, _, _, rfl, rfl, hu2, by omega, by omega, seq_nat hi.1 rfl (hp.len_of hd), hz1, q⟩) (Mono.refl _ _) r3 hz2
            · trivial
          · trivial
        · trivial
      · trivial
  · trivial
theorem good_popV {j : Nat} (hb : GoodE K T W tb b) : GoodE K T W (tBM K "list" rPopAt (tVar j) (tCons tb tNil)) (ePopV j b) := by
  intro g B ρ st σ H rel
  unfold ePopV tBM
  split
  · rename_i xs0 e0
    obtain ⟨p, vs0, h1, h2, h3⟩ := rel.ownH e0
    refine Res.conv (U := fun Q => tb σ H fun y H2 => rPopAt (.ref p) [y] H2 Q) ?_ fun Q q => ⟨_, h1, .inl ⟨rfl, _, SqL.of h2⟩, q⟩
    refine Res.bind (U := tb σ H) (U2 := fun y H2 Q => rPopAt (V.ref p) [y] H2 Q) (O := oD K) (hb.share rel) fun w s2 B2 ρ2 y H2 _ m2 r2 o2 => ?_
    have o2 : Rep K B2 ρ2 y w.d := o2
    split
    · rename_i i xs e4 e5
      rw [e4] at o2
      cases o2
      obtain ⟨p', vs, h4, h5, h6⟩ := r2.ownH e5
      rw [h1] at h4
      cases h4
      split
      · rename_i hi
        split
        · rename_i d hd
          obtain ⟨z, hz1, hz2⟩ := h6.get hd
          have lo := r2.takeOut e5 h1
          have hj : j < s2.env.length := (List.getElem?_eq_some_iff.mp e5).1
          have r3 := ((r2.forget (i := j)).put (o := .lst (vs.eraseIdx i.toNat)) lo).backIn hj h1 lo upd_same (h6.eraseIdx _)
          exact Res.now (x := z) (fun Q q => ⟨_, _, _, _, _, rfl, rfl, h5, by omega, by omega, seq_nat hi.1 rfl (h6.len_of hd), hz1, q⟩) (Mono.refl _ _) r3 hz2
        · trivial
      · trivial
    · trivial
  · trivial
end
end Mini

set_option Elab.async false
set_option linter.all false
set_option maxRecDepth 100000
set_option maxHeartbeats 1000000
/-! PySE4: tests, built-ins, calls of defs, what is walked, targets, comprehensions. -/
namespace Mini
open PySem PySem.Spec PyProof.Rows L2
section
variable {K : PySem.W.Frag} {T : XT} {W : WX} {ta tb tc : TE} {a b c : EvE} {va : TA} {l : EvA} {tt tu : TT} {et eu : EvT}

theorem unG_isN : UnG K (fun x H Q => Q (.bl (decide (x = .non))) H) oIsN := unG_sh fun B ρ H x d v _ r hf => by
  unfold oIsN at hf
  cases hf
  refine ⟨_, _, rfl, .bl _, fun Q q => ?_⟩
  cases r <;> exact q
theorem unG_notN : UnG K (fun x H Q => Q (.bl (!decide (x = .non))) H) oNotN := unG_sh fun B ρ H x d v _ r hf => by
  unfold oNotN at hf
  cases hf
  refine ⟨_, _, rfl, .bl _, fun Q q => ?_⟩
  cases r <;> exact q
theorem good_isN (ha : GoodE K T W ta a) : GoodE K T W (tIsN ta) (eOp1 oIsN a) := good_un (r := fun x H Q => Q (.bl (decide (x = .non))) H) unG_isN ha
theorem good_notN (ha : GoodE K T W ta a) : GoodE K T W (tNotN ta) (eOp1 oNotN a) := good_un (r := fun x H Q => Q (.bl (!decide (x = .non))) H) unG_notN ha

/-! ### tests -/
theorem good_bltest (ha : GoodE K T W ta a) : GoodT K T W (tTest ta) (tBl a) := by
  intro g B ρ st σ H rel
  unfold tBl tTest
  refine Res.bind (U := ta σ H) (U2 := fun x H1 Q => ∃ k, x = .bl k ∧ Q k H1) (O := oD K) (ha.share rel) fun v s1 B1 ρ1 x H1 _ m1 r1 o1 => ?_
  have o1 : Rep K B1 ρ1 x v.d := o1
  split
  · rename_i k e
    rw [e] at o1
    cases o1
    exact Res.now (x := k) (fun Q q => ⟨k, rfl, q⟩) (Mono.refl _ _) r1 rfl
  · trivial
theorem tru_rep {g : Gx} {B : Hp} {ρ : List Addr} {st : St} {σ : L2.St} {H : Hp} {x : V} {d : D} {k : Bool} (r : Rel K g B ρ st σ H) (o : Rep K B ρ x d) (h : d.tru st.om = some k) : TruV K x H k := by
  cases o with
  | non => cases h; rfl
  | bl b => cases h; rfl
  | int i => cases h; rfl
  | str y =>
    have h : (if y.cps.size ≤ many then some ((y.cps.size : Int) != 0) else none) = some k := h
    split at h
    · rename_i hz
      cases h
      exact ⟨many_le hz, rfl⟩
    · cases h
  | lst h1 r1 =>
    cases h
    refine .inl ⟨_, SqL.of (r.sub _ _ h1), ?_⟩
    cases r1 <;> rfl
  | tup h1 r1 =>
    cases h
    refine .inr (.inl ⟨_, SqT.of (r.sub _ _ h1), ?_⟩)
    cases r1 <;> rfl
  | @scr _ ns h1 =>
    cases h
    refine .inl ⟨_, sub_sqL r.sub h1, ?_⟩
    cases ns <;> rfl
  | @cell ad n hn =>
    have h : (match st.om[n]? with | some (Cell.lst xs) => some (!xs.isEmpty) | some (.dK kvs) => some (!kvs.isEmpty) | _ => none) = some k := h
    split at h
    · rename_i xs hc
      cases h
      obtain ⟨u, hu, vs, e, hp⟩ := r.cell n _ _ hc hn
      subst e
      refine .inl ⟨_, SqL.of hu, ?_⟩
      cases hp <;> rfl
    · rename_i kvs hc
      cases h
      obtain ⟨u, hu, kws, e, hp⟩ := r.cell n _ _ hc hn
      subst e
      refine .inr (.inr ⟨_, hu, ?_⟩)
      cases hp <;> rfl
    · cases h
theorem good_tru (ha : GoodE K T W ta a) : GoodT K T W (fun σ H Q => ta σ H fun x H' => ∃ k, TruV K x H' k ∧ Q k H') (tTru a) := by
  intro g B ρ st σ H rel
  unfold tTru
  refine Res.bind (U := ta σ H) (U2 := fun x H1 Q => ∃ k, TruV K x H1 k ∧ Q k H1) (O := oD K) (ha.share rel) fun v s1 B1 ρ1 x H1 _ m1 r1 o1 => ?_
  split
  · rename_i k e
    exact Res.now (x := k) (fun Q q => ⟨k, tru_rep r1 o1 e, q⟩) (Mono.refl _ _) r1 rfl
  · trivial
theorem good_truV {i : Nat} : GoodT K T W (fun σ H Q => tVar i σ H fun x H' => ∃ k, TruV K x H' k ∧ Q k H') (tTruV i) := by
  intro g B ρ st σ H r
  unfold tTruV
  split
  · rename_i ds e
    obtain ⟨p, vs, h1, h2, h3⟩ := r.look e
    refine Res.now (x := !ds.isEmpty) (fun Q q => ⟨_, h1, _, .inl ⟨_, SqL.of h2, ?_⟩, q⟩) (Mono.refl _ _) r rfl
    cases h3 <;> rfl
  · trivial
theorem ite_b {P Q : Prop} {b : Bool} (h1 : b = true → P) (h2 : b = false → Q) : if b = true then P else Q := by
  cases b with
  | true => exact h1 rfl
  | false => exact h2 rfl
theorem good_tand (ha : GoodT K T W tt et) (hb : GoodT K T W tu eu) : GoodT K T W (L2.tAnd tt tu) (tAnd et eu) := by
  intro g B ρ st σ H rel
  unfold tAnd L2.tAnd
  refine Res.bind (U := tt σ H) (U2 := fun x H1 Q => if x = true then tu σ H1 Q else Q false H1) (O := oB) (ha g B ρ st σ H rel) fun v s1 B1 ρ1 x H1 _ m1 r1 o1 => ?_
  obtain rfl : x = v := o1
  cases x with
  | true => exact hb g B1 ρ1 s1 σ H1 r1
  | false => exact Res.now (x := false) (fun Q q => q) (Mono.refl _ _) r1 rfl
theorem good_tor (ha : GoodT K T W tt et) (hb : GoodT K T W tu eu) : GoodT K T W (L2.tOr tt tu) (tOr et eu) := by
  intro g B ρ st σ H rel
  unfold tOr L2.tOr
  refine Res.bind (U := tt σ H) (U2 := fun x H1 Q => if x = true then Q true H1 else tu σ H1 Q) (O := oB) (ha g B ρ st σ H rel) fun v s1 B1 ρ1 x H1 _ m1 r1 o1 => ?_
  obtain rfl : x = v := o1
  cases x with
  | true => exact Res.now (x := true) (fun Q q => q) (Mono.refl _ _) r1 rfl
  | false => exact hb g B1 ρ1 s1 σ H1 r1
theorem good_tnot (ha : GoodT K T W tt et) : GoodT K T W (L2.tNot tt) (tNot et) := by
  intro g B ρ st σ H rel
  unfold tNot L2.tNot
  refine Res.bind (U := tt σ H) (U2 := fun x H1 Q => Q (!x) H1) (O := oB) (ha g B ρ st σ H rel) fun v s1 B1 ρ1 x H1 _ m1 r1 o1 => ?_
  obtain rfl : x = v := o1
  exact Res.now (x := !x) (fun Q q => q) (Mono.refl _ _) r1 rfl
theorem good_and (ha : GoodE K T W ta a) (hb : GoodE K T W tb b) : GoodE K T W (tAndV ta tb) (eAnd a b) := by
  intro g B ρ st σ H rel
  unfold eAnd tAndV
  refine Res.bind (U := ta σ H) (U2 := fun x H1 Q => ∃ c, x = .bl c ∧ if c = true then tb σ H1 Q else Q (.bl false) H1) (O := oD K) (ha.share rel) fun v s1 B1 ρ1 x H1 _ m1 r1 o1 => ?_
  have o1 : Rep K B1 ρ1 x v.d := o1
  split
  · rename_i e
    rw [e] at o1
    cases o1
    exact (hb g B1 ρ1 s1 σ H1 r1).conv fun Q q => ⟨true, rfl, q⟩
  · rename_i e
    rw [e] at o1
    cases o1
    exact Res.now (x := .bl false) (fun Q q => ⟨false, rfl, q⟩) (Mono.refl _ _) r1 (.bl _)
  · trivial
theorem good_or (ha : GoodE K T W ta a) (hb : GoodE K T W tb b) : GoodE K T W (tOrV ta tb) (eOr a b) := by
  intro g B ρ st σ H rel
  unfold eOr tOrV
  refine Res.bind (U := ta σ H) (U2 := fun x H1 Q => ∃ c, x = .bl c ∧ if c = true then Q (.bl true) H1 else tb σ H1 Q) (O := oD K) (ha.share rel) fun v s1 B1 ρ1 x H1 _ m1 r1 o1 => ?_
  have o1 : Rep K B1 ρ1 x v.d := o1
  split
  · rename_i e
    rw [e] at o1
    cases o1
    exact Res.now (x := .bl true) (fun Q q => ⟨true, rfl, q⟩) (Mono.refl _ _) r1 (.bl _)
  · rename_i e
    rw [e] at o1
    cases o1
    exact (hb g B1 ρ1 s1 σ H1 r1).conv fun Q q => ⟨false, rfl, q⟩
  · trivial
theorem good_not (ha : GoodE K T W ta a) : GoodE K T W (tNotV ta) (eNot a) := by
  intro g B ρ st σ H rel
  unfold eNot tNotV
  refine Res.bind (U := ta σ H) (U2 := fun x H1 Q => ∃ c, x = V.bl c ∧ Q (V.bl (!c)) H1) (O := oD K) (ha.share rel) fun v s1 B1 ρ1 x H1 _ m1 r1 o1 => ?_
  have o1 : Rep K B1 ρ1 x v.d := o1
  split
  · rename_i k e
    rw [e] at o1
    cases o1
    exact Res.now (x := .bl (!k)) (fun Q q => ⟨k, rfl, q⟩) (Mono.refl _ _) r1 (.bl _)
  · trivial
theorem good_if (ht : GoodT K T W tt et) (ha : GoodE K T W ta a) (hb : GoodE K T W tb b) : GoodE K T W (tIf tt ta tb) (eIf et a b) := by
  intro g B ρ st σ H rel
  unfold eIf tIf
  refine Res.bind (U := tt σ H) (U2 := fun x H1 Q => if x = true then ta σ H1 Q else tb σ H1 Q) (O := oB) (ht g B ρ st σ H rel) fun v s1 B1 ρ1 x H1 _ m1 r1 o1 => ?_
  obtain rfl : x = v := o1
  cases x with
  | true => exact ha g B1 ρ1 s1 σ H1 r1
  | false => exact hb g B1 ρ1 s1 σ H1 r1
theorem good_chain {r r' : R2} {f f' : Op2} (ho : OpG K r f) (ho' : OpG K r' f') (ha : GoodE K T W ta a) (hb : GoodE K T W tb b) (hc : GoodE K T W tc c) : GoodE K T W (tChain r r' ta tb tc) (eChain f f' a b c) := by
  intro g B ρ st σ H rel
  unfold eChain tChain
  refine Res.bind (U := ta σ H) (U2 := fun x H1 Q => tb σ H1 fun y H2 => r x y H2 fun z H3 => ∃ k, z = V.bl k ∧ (if k = true then tc σ H3 fun w' H4 => r' y w' H4 Q else Q (.bl false) H3)) (O := oD K) (ha.share rel) fun v s1 B1 ρ1 x H1 _ m1 r1 o1 => ?_
  refine Res.bind (U := tb σ H1) (U2 := fun y H2 Q => r x y H2 fun z H3 => ∃ k, z = V.bl k ∧ (if k = true then tc σ H3 fun w' H4 => r' y w' H4 Q else Q (.bl false) H3)) (O := oD K) (hb.share r1) fun w s2 B2 ρ2 y H2 _ m2 r2 o2 => ?_
  cases e : f v.d w.d with
  | none => trivial
  | some z =>
    have key : Res K T W g B2 ρ2 σ (fun Q => r x y H2 Q) (oD K) (.ok z s2) := Res.share (U := fun Q => r x y H2 Q) (fun Q hQ => ho g B2 ρ2 s2 σ H2 x y _ _ z r2 (o1.up m2) o2 e Q fun B' x' H' s r' o => hQ B' ρ2 x' H' ⟨s, Pre.refl _⟩ r' o)
    refine Res.bind (r := .ok z s2) (f := fun z s2 => match z.d with | .bl true => (c s2).bind fun z s3 => (match f' w.d z.d with | some w => R.ok w s3 | none => .no) | .bl false => .ok (.sh (.bl false)) s2 | _ => .no)
      (U := fun Q => r x y H2 Q) (U2 := fun z H3 Q => ∃ k, z = V.bl k ∧ (if k = true then tc σ H3 fun w' H4 => r' y w' H4 Q else Q (.bl false) H3)) key fun z' s3 B3 ρ3 u H3 ez m3 r3 o3 => ?_
    cases ez
    have o3 : Rep K B3 ρ3 u z.d := o3
    show Res K T W g B3 ρ3 σ _ _ (match z.d with | .bl true => (c s2).bind fun z s3 => (match f' w.d z.d with | some w => R.ok w s3 | none => .no) | .bl false => .ok (.sh (.bl false)) s2 | _ => .no)
    split
    · rename_i e3
      rw [e3] at o3
      cases o3
      refine Res.conv (U := fun Q => tc σ H3 fun w' H4 => r' y w' H4 Q) ?_ fun Q q => ⟨true, rfl, q⟩
      refine Res.bind (U := tc σ H3) (U2 := fun w' H4 Q => r' y w' H4 Q) (O := oD K) (hc.share r3) fun u4 s4 B4 ρ4 y4 H4 _ m4 r4 o4 => ?_
      cases e4 : f' w.d u4.d with
      | none => trivial
      | some z4 => exact fun Q hQ => ho' g B4 ρ4 s4 σ H4 y y4 _ _ z4 r4 ((o2.up m3).up m4) o4 e4 Q fun B' x' H' s r' o => hQ B' ρ4 x' H' ⟨s, Pre.refl _⟩ r' o
    · rename_i e3
      rw [e3] at o3
      cases o3
      exact Res.now (x := .bl false) (fun Q q => ⟨false, rfl, q⟩) (Mono.refl _ _) r3 (.bl _)
    · trivial

/-! ### built-ins -/
theorem good_b {r : List V → Hp → VK → Prop} {f : OpA} (hf : CallG K r f) (hl : GoodA K T W va l) : GoodE K T W (tCB r va) (eB f l) := by
  intro g B ρ st σ H rel
  unfold eB tCB
  refine Res.bind (U := va σ H) (U2 := fun xs H1 Q => r xs H1 Q) (O := oDs K) (hl g B ρ st σ H rel) fun ds s1 B1 ρ1 xs H1 _ m1 r1 o1 => ?_
  cases e : f ds with
  | none => trivial
  | some z => exact fun Q hQ => hf g B1 ρ1 s1 σ H1 xs ds z r1 o1 e Q fun B' x' H' s r' o => hQ B' ρ1 x' H' ⟨s, Pre.refl _⟩ r' o
def rAbs : List V → Hp → VK → Prop := fun xs H Q => ∃ i, xs = [.int i] ∧ Q (.int (if i < 0 then -i else i)) H
theorem callG_abs : CallG K rAbs bAbs := callG_sh fun B ρ H xs ds v _ r hf => by
  unfold bAbs at hf
  split at hf
  · cases hf
    cases r with
    | cons r rr => cases rr; cases r; exact ⟨_, _, rfl, .int _, fun Q q => ⟨_, rfl, q⟩⟩
  · cases hf
def rMin2 : List V → Hp → VK → Prop := fun xs H Q => ∃ i j, xs = [.int i, .int j] ∧ Q (.int (if j < i then j else i)) H
def rMax2 : List V → Hp → VK → Prop := fun xs H Q => ∃ i j : Int, xs = [V.int i, V.int j] ∧ Q (V.int (if j > i then j else i)) H
theorem callG_min : CallG K rMin2 bMin := callG_sh fun B ρ H xs ds v _ r hf => by
  unfold bMin at hf
  split at hf
  · cases hf
    cases r with
    | cons r rr =>
      cases rr with
      | cons r' rr => cases rr; cases r; cases r'; exact ⟨_, _, rfl, .int _, fun Q q => ⟨_, _, rfl, q⟩⟩
  · cases hf
theorem callG_max : CallG K rMax2 bMax := callG_sh fun B ρ H xs ds v _ r hf => by
  unfold bMax at hf
  split at hf
  · cases hf
    cases r with
    | cons r rr =>
      cases rr with
      | cons r' rr => cases rr; cases r; cases r'; exact ⟨_, _, rfl, .int _, fun Q q => ⟨_, _, rfl, q⟩⟩
  · cases hf
def rInt1 : List V → Hp → VK → Prop := fun xs H Q => (∃ i, xs = [.int i] ∧ Q (.int i) H) ∨ ∃ k, xs = [.bl k] ∧ Q (.int (if k then 1 else 0)) H
theorem callG_int : CallG K rInt1 bInt := callG_sh fun B ρ H xs ds v _ r hf => by
  unfold bInt at hf
  split at hf
  · cases hf
    cases r with
    | cons r rr => cases rr; cases r; exact ⟨_, _, rfl, .int _, fun Q q => .inl ⟨_, rfl, q⟩⟩
  · cases hf
    cases r with
    | cons r rr => cases rr; cases r; exact ⟨_, _, rfl, .int _, fun Q q => .inr ⟨_, rfl, q⟩⟩
  · cases hf
def rListA (K : PySem.W.Frag) : List V → Hp → VK → Prop := fun xs H Q => ∃ p ys, xs = [.ref p] ∧ (SqL K H p ys ∨ SqT K H p ys) ∧ ∀ l, H l = none → Q (.ref l) (upd H l (.lst ys))
theorem callG_list : CallG K (rListA K) bList := by
  intro g B ρ st σ H xs ds v rel r hf Q q
  unfold bList at hf
  split at hf
  · cases hf
    cases r with
    | cons r rr =>
      cases rr
      cases r with
      | lst h1 r1 =>
        refine ⟨_, _, rfl, .inl (SqL.of (rel.sub _ _ h1)), fun p hp => ?_⟩
        obtain ⟨r', o'⟩ := out_new rel hp r1
        exact q B _ _ (Sub.refl _) r' o'
  · cases hf
    cases r with
    | cons r rr =>
      cases rr
      cases r with
      | tup h1 r1 =>
        refine ⟨_, _, rfl, .inr (SqT.of (rel.sub _ _ h1)), fun p hp => ?_⟩
        obtain ⟨r', o'⟩ := out_new rel hp r1
        exact q B _ _ (Sub.refl _) r' o'
  · cases hf
def rTupleA (K : PySem.W.Frag) : List V → Hp → VK → Prop := fun xs H Q => ∃ p ys, xs = [.ref p] ∧ ((SqL K H p ys ∧ ∀ l, H l = none → Q (.ref l) (upd H l (.tup ys))) ∨ (SqT K H p ys ∧ Q (.ref p) H))
theorem callG_tuple : CallG K (rTupleA K) bTuple := by
  intro g B ρ st σ H xs ds v rel r hf Q q
  unfold bTuple at hf
  split at hf
  · cases hf
    cases r with
    | cons r rr =>
      cases rr
      cases r with
      | lst h1 r1 =>
        refine ⟨_, _, rfl, .inl ⟨SqL.of (rel.sub _ _ h1), fun p hp => ?_⟩⟩
        exact q _ _ _ (Sub.new rel hp) (rel.imm hp) (.tup upd_same (r1.mono (Sub.new rel hp) (Pre.refl _)))
  · cases hf
    cases r with
    | cons r rr =>
      cases rr
      cases r with
      | tup h1 r1 => exact ⟨_, _, rfl, .inr ⟨SqT.of (rel.sub _ _ h1), q B _ _ (Sub.refl _) rel (.tup h1 r1)⟩⟩
  · cases hf
theorem bls_rep {B : Hp} {ρ : List Addr} : ∀ {vs : List V} {ds : List D} {bs : List Bool}, Reps K B ρ vs ds → D.bls ds = some bs → vs = bs.map V.bl
  | _, _, _, .nil, h => by cases h; rfl
  | _, _, bs, .cons r t, h => by
    cases r <;> simp only [D.bls, reduceCtorEq] at h
    rename_i b
    cases e : D.bls _ with
    | none => rw [e] at h; cases h
    | some cs =>
      rw [e] at h
      cases h
      rw [bls_rep t e]
      rfl
theorem callG_all : CallG K (rAll K) bAll := callG_sh fun B ρ H xs ds v s r hf => by
  unfold bAll at hf
  split at hf
  · cases r with
    | cons r rr =>
      cases rr
      cases r with
      | lst h1 r1 =>
        cases e : D.bls _ with
        | none => rw [e] at hf; cases hf
        | some bs =>
          rw [e] at hf
          cases hf
          have := bls_rep r1 e
          subst this
          exact ⟨_, _, rfl, .bl _, fun Q q => ⟨_, bs, rfl, SqL.of (s _ _ h1), q⟩⟩
  · cases hf
theorem callG_any : CallG K (rAny K) bAny := callG_sh fun B ρ H xs ds v s r hf => by
  unfold bAny at hf
  split at hf
  · cases r with
    | cons r rr =>
      cases rr
      cases r with
      | lst h1 r1 =>
        cases e : D.bls _ with
        | none => rw [e] at hf; cases hf
        | some bs =>
          rw [e] at hf
          cases hf
          have := bls_rep r1 e
          subst this
          exact ⟨_, _, rfl, .bl _, fun Q q => ⟨_, bs, rfl, SqL.of (s _ _ h1), q⟩⟩
  · cases hf
/-! isinstance -/
def Ty.nm : Ty → String
  | .bool => "bool" | .int => "int" | .str => "str" | .dict => "dict" | .tuple => "tuple" | .list => "list"
def kindNm : D → String
  | .non => "NoneType" | .bl _ => "bool" | .int _ => "int" | .str _ => "str" | .lst _ => "list" | .tup _ => "tuple" | _ => ""
theorem kit_all : ∀ a ∈ ["NoneType", "bool", "int", "str", "list", "tuple"], ∀ b ∈ ["bool", "int", "str", "dict", "tuple", "list"], kitB a b = some (a == b || (a == "bool" && b == "int")) := by decide +kernel
theorem isA_kit {om : List Cell} {d : D} {t : Ty} {b : Bool} (h : d.isA om t = some b) : kitB (kindNm d) t.nm = some b := by
  have h2 : t.nm ∈ ["bool", "int", "str", "dict", "tuple", "list"] := by cases t <;> decide
  have key : ∀ n, kindNm d = n → n ∈ ["NoneType", "bool", "int", "str", "list", "tuple"] → (n == t.nm || (n == "bool" && t.nm == "int")) = b → kitB (kindNm d) t.nm = some b := fun n e1 e2 e3 => by
    rw [e1, kit_all n e2 _ h2, e3]
  cases d with
  | scr xs => cases t <;> cases h
  | cell n => cases t <;> cases h
  | non => cases t <;> cases h <;> exact key "NoneType" rfl (by decide) (by decide)
  | bl b' => cases t <;> cases h <;> exact key "bool" rfl (by decide) (by decide)
  | int i => cases t <;> cases h <;> exact key "int" rfl (by decide) (by decide)
  | str x => cases t <;> cases h <;> exact key "str" rfl (by decide) (by decide)
  | lst xs => cases t <;> cases h <;> exact key "list" rfl (by decide) (by decide)
  | tup xs => cases t <;> cases h <;> exact key "tuple" rfl (by decide) (by decide)
theorem good_isA {t : Ty} (ha : GoodE K T W ta a) : GoodE K T W (tCB (rIsi K) (tCons ta (tCons (tC (.ty t.nm)) tNil))) (eIsA a t) := by
  intro g B ρ st σ H rel
  unfold eIsA
  show Res K T W g B ρ σ (fun Q => ta σ H fun x H1 => rIsi K [x, .ty t.nm] H1 Q) _ _
  refine Res.bind (U := ta σ H) (U2 := fun x H1 Q => rIsi K [x, .ty t.nm] H1 Q) (O := oD K) (ha.share rel) fun v s1 B1 ρ1 x H1 _ m1 r1 o1 => ?_
  have o1 : Rep K B1 ρ1 x v.d := o1
  split
  · rename_i b e
    have hk := kit_ty (K := K) (isA_kit e)
    refine Res.now (x := .bl b) (fun Q q => ⟨x, _, .type (kindNm v.d), _, b, rfl, .ty _, ?_, hk, q⟩) (Mono.refl _ _) r1 (.bl _)
    cases hd : v.d with
    | non => rw [hd] at o1; cases o1; exact .base .non
    | bl b' => rw [hd] at o1; cases o1; exact .base (.bl _)
    | int i => rw [hd] at o1; cases o1; exact .base (.int _)
    | str y => rw [hd] at o1; cases o1; exact .base (.str _)
    | lst xs =>
      rw [hd] at o1
      cases o1 with
      | lst h1 _ => exact .base (.lst (r1.sub _ _ h1))
    | tup xs =>
      rw [hd] at o1
      cases o1 with
      | tup h1 _ => exact .base (.tup (r1.sub _ _ h1))
    | scr xs => rw [hd] at e; cases t <;> cases e
    | cell n => rw [hd] at e; cases t <;> cases e
  · trivial

/-! ### calls of defs -/
/-- a def's promise: it gives what F says -/
def spD (K : PySem.W.Frag) (T : XT) (n : Nat) (F : Fn) : Sp := fun vs H Q E => vs.length = n ∧ ∃ B ρ ds om, Rel K (callG B ρ H) B ρ ⟨[], om⟩ [] H ∧ Reps K B ρ vs ds ∧
  match F ds om with
  | .ok v om' => ∀ B' ρ' x H', Mono B ρ B' ρ' → Rel K (callG B ρ H) B' ρ' ⟨[], om'⟩ [] H' → OutR K (callG B ρ H) B' ρ' ⟨[], om'⟩ [] H' x v → Q x H'
  | .ex xc om' => ∀ B' ρ' cls d H', Mono B ρ B' ρ' → Rel K (callG B ρ H) B' ρ' ⟨[], om'⟩ [] H' → XcR K T B' ρ' H' xc cls d → E cls d H'
  | .no => False
theorem good_call {F : Fn} {n : Nat} (hn : ∀ g B ρ st σ H ds s1, Rel K g B ρ st σ H → l st = .ok ds s1 → ds.length = n) (hl : GoodA K T W va l) : GoodE K T W (tCallS (spD K T n F) (WE W) va) (eCall F l) := by
  intro g B ρ st σ H rel
  unfold eCall tCallS
  refine Res.bind (U := va σ H) (U2 := fun xs H1 Q => spD K T n F xs H1 Q (WE W σ)) (O := oDs K) (hl g B ρ st σ H rel) fun ds s1 B1 ρ1 xs H1 e0 m1 r1 o1 => ?_
  have hlen : xs.length = n := by
    rw [Reps.length o1]
    exact hn g B ρ st σ H ds s1 rel e0
  have c1 := r1.toCall
  cases e : F ds s1.om with
  | no => trivial
  | ok v om =>
    refine fun Q hQ => ⟨hlen, B1, ρ1, ds, s1.om, c1, o1, ?_⟩
    rw [e]
    exact fun B' ρ' x H' m r o => hQ B' ρ' x H' m (r1.ofCall m.r r) (OutR.ofCall r1 m.r r o)
  | ex xc om =>
    refine fun Q hQ => ⟨hlen, B1, ρ1, ds, s1.om, c1, o1, ?_⟩
    rw [e]
    exact fun B' ρ' cls d H' m r o => hQ B' ρ' cls d H' m (r1.ofCall m.r r) o
/-- so many arguments -/
def Ar (n : Nat) (l : EvA) : Prop := ∀ st ds s1, l st = .ok ds s1 → ds.length = n
theorem ar_nil : Ar 0 aNil := fun st ds s1 e => by cases e; rfl
theorem ar_cons {n : Nat} (h : Ar n l) : Ar (n + 1) (aCons a l) := fun st ds s1 e => by
  unfold aCons at e
  cases e1 : a st with
  | no => rw [e1] at e; cases e
  | ex x s => rw [e1] at e; cases e
  | ok v s =>
    rw [e1, R.bind_ok] at e
    cases e2 : l s with
    | no => rw [e2] at e; cases e
    | ex x s => rw [e2] at e; cases e
    | ok vs s' =>
      rw [e2, R.bind_ok] at e
      cases e
      rw [List.length_cons, h _ _ _ e2]
theorem good_fn {F : Fn} {n : Nat} (hn : Ar n l) (hl : GoodA K T W va l) : GoodE K T W (tCallS (spD K T n F) (WE W) va) (eCall F l) := good_call (fun _ _ _ st _ _ ds s1 _ e => hn st ds s1 e) hl
end
end Mini

set_option Elab.async false
set_option linter.all false
set_option maxRecDepth 100000
set_option maxHeartbeats 1000000
/-! PySE5: what is walked, targets, comprehensions. -/
namespace Mini
open PySem PySem.Spec PyProof.Rows L2
/-- J walks the items xs -/
def ItR (K : PySem.W.Frag) (B : Hp) (ρ : List Addr) (J : It) (xs : List D) : Prop := ∀ g i B1 ρ1 st σ H, Mono B ρ B1 ρ1 → Rel K g B1 ρ1 st σ H →
  (∀ d, xs[i]? = some d → J.go i H ∧ ∀ x H', J.yld i H x H' → ∃ B2, Sub B1 B2 ∧ Rel K g B2 ρ1 st σ H' ∧ Rep K B2 ρ1 x d) ∧ (xs.length ≤ i → J.stop i H)
def GoodI (K : PySem.W.Frag) (T : XT) (W : WX) (t : TI) (e : EvI) : Prop := ∀ g B ρ st σ H, Rel K g B ρ st σ H → Res K T W g B ρ σ (t σ H) (fun xs B' ρ' _ _ J => ItR K B' ρ' J xs) (e st)
section
variable {K : PySem.W.Frag} {T : XT} {W : WX} {ta tb tc : TE} {a b c : EvE} {va : TA} {l : EvA} {tt tu : TT} {et eu : EvT}
theorem itR_same {B : Hp} {ρ : List Addr} {J : It} {vs : List V} {ds : List D} (r : Reps K B ρ vs ds) (h : ∀ H, Sub B H → (∀ i v, vs[i]? = some v → J.go i H ∧ ∀ x H', J.yld i H x H' → H' = H ∧ x = v) ∧ ∀ i, vs.length ≤ i → J.stop i H) : ItR K B ρ J ds := by
  intro g i B1 ρ1 st σ H m rel
  obtain ⟨h1, h2⟩ := h H (m.b.trans rel.sub)
  refine ⟨fun d hd => ?_, fun hi => h2 i (by rw [r.length]; exact hi)⟩
  obtain ⟨v, hv, rv⟩ := r.get hd
  obtain ⟨go, y⟩ := h1 i v hv
  refine ⟨go, fun x H' hy => ?_⟩
  obtain ⟨rfl, rfl⟩ := y x H' hy
  exact ⟨B1, Sub.refl _, rel, rv.up m⟩
theorem good_iseq (ha : GoodE K T W ta a) : GoodI K T W (iList K ta) (iSeq a) := by
  intro g B ρ st σ H rel
  unfold iSeq iList
  refine Res.bind (U := ta σ H) (U2 := fun x H1 R => ∃ a, x = V.ref a ∧ (∃ xs, SqL K H1 a xs) ∧ R (Itl K a) H1) (O := oD K) (ha.share rel) fun v s1 B1 ρ1 x H1 _ m1 r1 o1 => ?_
  have o1 : Rep K B1 ρ1 x v.d := o1
  split
  · rename_i xs e
    rw [e] at o1
    cases o1 with
    | @lst ad vs _ h1 h2 =>
      refine Res.now (x := Itl K ad) (fun Q q => ⟨_, rfl, ⟨_, SqL.of (r1.sub _ _ h1)⟩, q⟩) (Mono.refl _ _) r1 (itR_same h2 fun H' s => ⟨fun i v hv => ⟨⟨_, _, SqL.of (s _ _ h1), hv⟩, fun x H2 y => ⟨y.1, Option.some.inj ((y.2 _ (SqL.of (s _ _ h1))).symm.trans hv)⟩⟩, fun i hi => ⟨_, SqL.of (s _ _ h1), hi⟩⟩)
  · trivial
theorem good_ituple (ha : GoodE K T W ta a) : GoodI K T W (L2.iTup K ta) (iTup a) := by
  intro g B ρ st σ H rel
  unfold iTup L2.iTup
  refine Res.bind (U := ta σ H) (U2 := fun x H1 R => ∃ a, x = V.ref a ∧ (∃ xs, SqT K H1 a xs) ∧ R (Itt K a) H1) (O := oD K) (ha.share rel) fun v s1 B1 ρ1 x H1 _ m1 r1 o1 => ?_
  have o1 : Rep K B1 ρ1 x v.d := o1
  split
  · rename_i xs e
    rw [e] at o1
    cases o1 with
    | @tup ad vs _ h1 h2 =>
      refine Res.now (x := Itt K ad) (fun Q q => ⟨_, rfl, ⟨_, SqT.of (r1.sub _ _ h1)⟩, q⟩) (Mono.refl _ _) r1 (itR_same h2 fun H' s => ⟨fun i v hv => ⟨⟨_, _, SqT.of (s _ _ h1), hv⟩, fun x H2 y => ⟨y.1, Option.some.inj ((y.2 _ (SqT.of (s _ _ h1))).symm.trans hv)⟩⟩, fun i hi => ⟨_, SqT.of (s _ _ h1), hi⟩⟩)
  · trivial
theorem range_get (lo : Int) (n i : Nat) : (rangeD lo n)[i]? = if i < n then some (.int (lo + (i : Int))) else none := by
  unfold rangeD
  rw [List.getElem?_map]
  by_cases h : i < n
  · rw [if_pos h, List.getElem?_range h]
    rfl
  · rw [if_neg h, List.getElem?_eq_none (by simpa using h)]
    rfl
theorem range_len (lo : Int) (n : Nat) : (rangeD lo n).length = n := by unfold rangeD; simp
theorem itR_range {B : Hp} {ρ : List Addr} {lo : Int} {n : Nat} : ItR K B ρ (Itr lo n) (rangeD lo n) := by
  intro g i B1 ρ1 st σ H m rel
  rw [range_len]
  refine ⟨fun d hd => ?_, fun hi => hi⟩
  rw [range_get] at hd
  split at hd
  · rename_i hi
    cases hd
    refine ⟨hi, fun x H' hy => ?_⟩
    obtain ⟨rfl, rfl⟩ := hy
    exact ⟨B1, Sub.refl _, rel, .int _⟩
  · cases hd
theorem ints1 {B : Hp} {ρ : List Addr} {vs : List V} {i : Int} (r : Reps K B ρ vs [.int i]) : vs = [.int i] := by
  cases r with
  | cons r t => cases t; cases r; rfl
theorem ints2 {B : Hp} {ρ : List Addr} {vs : List V} {i j : Int} (r : Reps K B ρ vs [.int i, .int j]) : vs = [.int i, .int j] := by
  cases r with
  | cons r t => rw [ints1 t]; cases r; rfl
theorem good_irange1 (hl : GoodA K T W va l) : GoodI K T W (iRng1 va) (iRange1 l) := by
  intro g B ρ st σ H rel
  unfold iRange1 iRng1
  refine Res.bind (U := va σ H) (U2 := fun vs H1 R => ∃ j : Int, vs = [V.int j] ∧ -(2 ^ 62) ≤ j ∧ j < 2 ^ 62 ∧ R (Itr 0 j.toNat) H1) (O := oDs K) (hl g B ρ st σ H rel) fun ds s1 B1 ρ1 xs H1 _ m1 r1 o1 => ?_
  have o1 : Reps K B1 ρ1 xs ds := o1
  split
  · rename_i j _ _
    have e := ints1 o1
    split
    · rename_i hz
      unfold far at hz
      exact Res.now (x := Itr 0 j.toNat) (fun Q q => ⟨j, e, by omega, by omega, q⟩) (Mono.refl _ _) r1 itR_range
    · trivial
  · trivial
theorem good_irange2 (hl : GoodA K T W va l) : GoodI K T W (iRng2 va) (iRange2 l) := by
  intro g B ρ st σ H rel
  unfold iRange2 iRng2
  refine Res.bind (U := va σ H) (U2 := fun vs H1 R => ∃ i j : Int, vs = [V.int i, V.int j] ∧ (-(2 ^ 62) ≤ i ∧ i < 2 ^ 62 ∧ -(2 ^ 62) ≤ j ∧ j < 2 ^ 62) ∧ R (Itr i (j - i).toNat) H1) (O := oDs K) (hl g B ρ st σ H rel) fun ds s1 B1 ρ1 xs H1 _ m1 r1 o1 => ?_
  have o1 : Reps K B1 ρ1 xs ds := o1
  split
  · rename_i i j _ _
    have e := ints2 o1
    split
    · rename_i hz
      unfold far at hz
      exact Res.now (x := Itr i (j - i).toNat) (fun Q q => ⟨i, j, e, ⟨by omega, by omega, by omega, by omega⟩, q⟩) (Mono.refl _ _) r1 itR_range
    · trivial
  · trivial
theorem zip_get {α β : Type} (xs : List α) (ys : List β) (i : Nat) {x : α} {y : β} (h : (xs.zip ys)[i]? = some (x, y)) : xs[i]? = some x ∧ ys[i]? = some y := by
  rw [List.getElem?_zip_eq_some] at h
  exact h
theorem good_izip (hl : GoodA K T W va l) : GoodI K T W (L2.iZip K va) (iZip l) := by
  intro g B ρ st σ H rel
  unfold iZip L2.iZip
  refine Res.bind (U := va σ H) (U2 := fun vs H1 R => ∃ a b xs ys, vs = [V.ref a, V.ref b] ∧ SqL K H1 a xs ∧ SqL K H1 b ys ∧ R (Itz K a b) H1) (O := oDs K) (hl g B ρ st σ H rel) fun ds s1 B1 ρ1 vs H1 _ m1 r1 o1 => ?_
  have o1 : Reps K B1 ρ1 vs ds := o1
  split
  · rename_i xs ys _ _
    cases o1 with
    | cons ra t =>
      cases t with
      | cons rb t =>
        cases t
        cases ra with
        | @lst aa us _ h1 h2 =>
          cases rb with
          | @lst ab ws _ h3 h4 =>
            refine Res.now (x := Itz K aa ab) (fun Q q => ⟨_, _, _, _, rfl, SqL.of (r1.sub _ _ h1), SqL.of (r1.sub _ _ h3), q⟩) (Mono.refl _ _) r1 ?_
            intro g' i B2 ρ2 st2 σ2 H2 m2 rel2
            have e1 : SqL K H2 aa us := SqL.of (rel2.sub _ _ (m2.b _ _ h1))
            have e2 : SqL K H2 ab ws := SqL.of (rel2.sub _ _ (m2.b _ _ h3))
            refine ⟨fun d hd => ?_, fun hi => ⟨us, ws, e1, e2, ?_⟩⟩
            · rw [List.getElem?_map] at hd
              cases e : (xs.zip ys)[i]? with
              | none => rw [e] at hd; cases hd
              | some p =>
                rw [e] at hd
                cases hd
                obtain ⟨hx, hy⟩ := zip_get xs ys i (x := p.1) (y := p.2) e
                obtain ⟨u, hu, ru⟩ := h2.get hx
                obtain ⟨w, hw, rw'⟩ := h4.get hy
                refine ⟨⟨us, ws, u, w, e1, e2, hu, hw⟩, fun x H' hyl => ?_⟩
                obtain ⟨Tt, x1, x2, rfl, nT, rfl, f1, f2⟩ := hyl
                have ex1 : x1 = u := Option.some.inj ((f1 _ e1).symm.trans hu)
                have ex2 : x2 = w := Option.some.inj ((f2 _ e2).symm.trans hw)
                subst ex1 ex2
                have sN := Sub.new (o := .tup [x1, x2]) rel2 nT
                exact ⟨_, sN, rel2.imm nT, .tup upd_same (.cons ((ru.up m2).mono sN (Pre.refl _)) (.cons ((rw'.up m2).mono sN (Pre.refl _)) .nil))⟩
            · rw [List.length_map, List.length_zip] at hi
              rw [h2.length, h4.length]
              omega
  · trivial

/-! ### targets -/
def GoodG (K : PySem.W.Frag) (t : TG) (e : EvG) (vs : List Nat) : Prop := ∀ g B ρ st σ H x d st', Rel K g B ρ st σ H → Rep K B ρ x d → e d st = some st' →
  ∀ Q : L2.St → Hp → Prop, (∀ σ', Rel K g B ρ st' σ' H → (σ'.length = σ.length ∧ ∀ j, j ∉ vs → σ'[j]? = σ[j]?) → Q σ' H) → t x σ H Q
def GoodGs (K : PySem.W.Frag) (t : TGs) (e : EvGs) (vs : List Nat) : Prop := ∀ g B ρ st σ H xs ds st', Rel K g B ρ st σ H → Reps K B ρ xs ds → e ds st = some st' →
  ∀ Q : L2.St → Hp → Prop, (∀ σ', Rel K g B ρ st' σ' H → (σ'.length = σ.length ∧ ∀ j, j ∉ vs → σ'[j]? = σ[j]?) → Q σ' H) → t xs σ H Q
def LenG (e : EvGs) (n : Nat) : Prop := ∀ ds st st', e ds st = some st' → ds.length = n
theorem lenG_nil : LenG gNone 0 := fun ds st st' h => by
  unfold gNone at h
  split at h
  · rfl
  · cases h
theorem lenG_cons {g : EvG} {e : EvGs} {n : Nat} (h : LenG e n) : LenG (gMore g e) (n + 1) := fun ds st st' he => by
  unfold gMore at he
  split at he
  · rename_i d ds
    cases e1 : g d st with
    | none => rw [e1] at he; cases he
    | some s1 =>
      rw [e1] at he
      rw [List.length_cons, h ds s1 st' he]
  · cases he
theorem good_gname {i : Nat} : GoodG K (gName i) (gNm i) [i] := by
  intro g B ρ st σ H x d st' rel r e Q q
  unfold gNm at e
  split at e
  · rename_i hi
    cases e
    refine q _ (rel.setSlot (v := .sh d) hi r) ⟨List.length_set, fun j hj => ?_⟩
    rw [getElem?_set', if_neg (fun z => hj (by simp [z]))]
  · cases e
theorem good_gnil : GoodGs K gNil gNone [] := by
  intro g B ρ st σ H xs ds st' rel r e Q q
  unfold gNone at e
  split at e
  · cases e
    cases r
    exact ⟨rfl, q σ rel ⟨rfl, fun _ _ => rfl⟩⟩
  · cases e
theorem good_gcons {t : TG} {u : TGs} {e : EvG} {es : EvGs} {vs ws : List Nat} (h1 : GoodG K t e vs) (h2 : GoodGs K u es ws) : GoodGs K (gCons t u) (gMore e es) (vs ++ ws) := by
  intro g B ρ st σ H xs ds st' rel r he Q q
  unfold gMore at he
  split at he
  · rename_i d ds
    cases r with
    | @cons x xs _ _ rx rxs =>
      cases e1 : e d st with
      | none => rw [e1] at he; cases he
      | some s1 =>
        rw [e1] at he
        have he : es ds s1 = some st' := he
        refine ⟨x, xs, rfl, h1 g B ρ st σ H x d s1 rel rx e1 _ fun σ' r' hj => ?_⟩
        exact h2 g B ρ s1 σ' H xs ds st' r' rxs he Q fun σ2 r2 hj2 => q σ2 r2 ⟨hj2.1.trans hj.1, fun j hm => by
          rw [List.mem_append, not_or] at hm
          rw [hj2.2 j hm.2, hj.2 j hm.1]⟩
  · cases he
theorem good_gtup {t : TGs} {e : EvGs} {n : Nat} {vs : List Nat} (hn : LenG e n) (h : GoodGs K t e vs) : GoodG K (gTup K n t) (gTp e) vs := by
  intro g B ρ st σ H x d st' rel r he Q q
  unfold gTp at he
  split at he
  · rename_i ds
    cases r with
    | tup h1 h2 => exact ⟨_, _, rfl, SqT.of (rel.sub _ _ h1), by rw [h2.length, hn _ _ _ he], h g B ρ st σ H _ ds st' rel h2 he Q q⟩
  · cases he

/-! ### comprehensions -/
theorem wipeEnv_get {env : List (Option Vl)} : ∀ {vs : List Nat} {j : Nat} {v : Vl}, (wipeEnv env vs)[j]? = some (some v) → j ∉ vs ∧ env[j]? = some (some v)
  | [], j, v, h => ⟨by simp, h⟩
  | w :: vs, j, v, h => by
    have h' : ((wipeEnv env vs).set w none)[j]? = some (some v) := h
    rw [getElem?_set'] at h'
    by_cases hj : w = j
    · rw [if_pos hj] at h'
      split at h' <;> cases h'
    · rw [if_neg hj] at h'
      obtain ⟨h1, h2⟩ := wipeEnv_get h'
      exact ⟨by simp only [List.mem_cons, not_or]; exact ⟨fun z => hj z.symm, h1⟩, h2⟩
theorem wipeEnv_len {env : List (Option Vl)} : ∀ {vs : List Nat}, (wipeEnv env vs).length = env.length
  | [] => rfl
  | w :: vs => by
    show ((wipeEnv env vs).set w none).length = _
    rw [List.length_set, wipeEnv_len]
theorem Rel.wipe {g : Gx} {B : Hp} {ρ : List Addr} {st : St} {σ : L2.St} {H : Hp} (r : Rel K g B ρ st σ H) {vs : List Nat} : Rel K g B ρ { st with env := wipeEnv st.env vs } (wipe σ vs) H := by
  refine ⟨by show (wipeEnv st.env vs).length = _; rw [wipeEnv_len, wipe_length]; exact r.len, r.sub, r.prot, r.new, r.nd, r.cl, r.cell, r.cellN, fun i v e => ?_, fun i ds p e1 e2 => ?_, fun i j ds es p e1 e2 e3 e4 => ?_, r.old, r.tb, r.tp⟩
  · obtain ⟨h1, h2⟩ := wipeEnv_get e
    rw [wipe_out h1]
    exact r.slot i v h2
  · obtain ⟨h1, h2⟩ := wipeEnv_get e1
    rw [wipe_out h1] at e2
    exact r.own i ds p h2 e2
  · obtain ⟨h1, h2⟩ := wipeEnv_get e1
    obtain ⟨h3, h4⟩ := wipeEnv_get e2
    rw [wipe_out h1] at e3
    rw [wipe_out h3] at e4
    exact r.uni i j ds es p h2 h4 e3 e4
theorem restore_get {env env' : List (Option Vl)} (hl : env'.length = env.length) : ∀ {vs : List Nat} {j : Nat} {v : Vl}, (restore env env' vs)[j]? = some (some v) → (j ∈ vs ∧ env[j]? = some (some v)) ∨ (j ∉ vs ∧ env'[j]? = some (some v))
  | [], j, v, h => .inr ⟨by simp, h⟩
  | w :: vs, j, v, h => by
    have h' : ((restore env env' vs).set w (env[w]?.getD none))[j]? = some (some v) := h
    rw [getElem?_set'] at h'
    by_cases hj : w = j
    · rw [if_pos hj] at h'
      split at h'
      · have e : env[w]?.getD none = some v := Option.some.inj h'
        refine .inl ⟨by simp [hj], ?_⟩
        rw [← hj]
        cases q : env[w]? with
        | none => rw [q] at e; cases e
        | some u =>
          rw [q] at e
          have e' : u = some v := e
          rw [e']
      · cases h'
    · rw [if_neg hj] at h'
      rcases restore_get hl h' with ⟨h1, h2⟩ | ⟨h1, h2⟩
      · exact .inl ⟨by simp [h1], h2⟩
      · exact .inr ⟨by simp only [List.mem_cons, not_or]; exact ⟨fun z => hj z.symm, h1⟩, h2⟩
theorem restore_len {env env' : List (Option Vl)} : ∀ {vs : List Nat}, (restore env env' vs).length = env'.length
  | [] => rfl
  | w :: vs => by
    show ((restore env env' vs).set w _).length = _
    rw [List.length_set, restore_len]
theorem calm_get {env : List (Option Vl)} {vs : List Nat} (h : calmSlots env vs = true) {j : Nat} (hj : j ∈ vs) {ds : List D} : env[j]? ≠ some (some (.ow ds)) := fun e => by
  unfold calmSlots at h
  rw [List.all_eq_true] at h
  have := h j hj
  rw [e] at this
  cases this
theorem Rel.back {g : Gx} {B B' : Hp} {ρ ρ' : List Addr} {st st' : St} {σ : L2.St} {H H' : Hp} (r : Rel K g B ρ st σ H) (m : Mono B ρ B' ρ') {vs : List Nat} (hc : calmSlots st.env vs = true) (r' : Rel K g B' ρ' st' (L2.wipe σ vs) H') :
    Rel K g B' ρ' { st' with env := restore st.env st'.env vs } σ H' := by
  have hl : st'.env.length = st.env.length := by
    rw [r'.len, wipe_length, r.len]
  have own' : ∀ i ds, (restore st.env st'.env vs)[i]? = some (some (Vl.ow ds)) → i ∉ vs ∧ st'.env[i]? = some (some (.ow ds)) := fun i ds e => by
    rcases restore_get hl e with ⟨h1, h2⟩ | h
    · exact absurd h2 (calm_get hc h1)
    · exact h
  refine ⟨by show (restore st.env st'.env vs).length = _; rw [restore_len, hl]; exact r.len, r'.sub, r'.prot, r'.new, r'.nd, r'.cl, r'.cell, r'.cellN, fun i v e => ?_, fun i ds p e1 e2 => ?_, fun i j ds es p e1 e2 e3 e4 => ?_, r'.old, r'.tb, r'.tp⟩
  · rcases restore_get hl e with ⟨h1, h2⟩ | ⟨h1, h2⟩
    · obtain ⟨x, h3, h4⟩ := r.slot i v h2
      refine ⟨x, h3, ?_⟩
      cases v with
      | sh d => exact h4.mono m.b m.r
      | ow ds => exact absurd h2 (calm_get hc h1)
    · obtain ⟨x, h3, h4⟩ := r'.slot i v h2
      rw [wipe_out h1] at h3
      exact ⟨x, h3, h4⟩
  · obtain ⟨h1, h2⟩ := own' i ds e1
    rw [← wipe_out h1] at e2
    exact r'.own i ds p h2 e2
  · obtain ⟨h1, h2⟩ := own' i ds e1
    obtain ⟨h3, h4⟩ := own' j es e2
    rw [← wipe_out h1] at e3
    rw [← wipe_out h3] at e4
    exact r'.uni i j ds es p h2 h4 e3 e4
abbrev WF : WX := fun _ _ _ _ => False
theorem wipe_eq {σ σ' : L2.St} {vs : List Nat} (hl : σ'.length = σ.length) (h : ∀ j, j ∉ vs → σ'[j]? = σ[j]?) : L2.wipe σ' vs = L2.wipe σ vs := by
  have hin : ∀ (σ : L2.St) (vs : List Nat) (j : Nat), j ∈ vs → j < σ.length → (L2.wipe σ vs)[j]? = some none := by
    intro σ vs
    induction vs with
    | nil => intro j hj; simp at hj
    | cons w vs ih =>
      intro j hj hlt
      show ((L2.wipe σ vs).set w none)[j]? = some none
      rw [getElem?_set']
      by_cases e : w = j
      · rw [if_pos e, if_pos (by rw [wipe_length, e]; exact hlt)]
      · rw [if_neg e]
        rcases List.mem_cons.mp hj with z | z
        · exact absurd z.symm e
        · exact ih j z hlt
  apply List.ext_getElem?
  intro j
  by_cases hlt : j < σ.length
  · by_cases hj : j ∈ vs
    · rw [hin σ vs j hj hlt, hin σ' vs j hj (by rw [hl]; exact hlt)]
    · rw [wipe_out hj, wipe_out hj, h j hj]
  · rw [List.getElem?_eq_none (by rw [wipe_length, hl]; omega), List.getElem?_eq_none (by rw [wipe_length]; omega)]
theorem wipe_wipe {σ : L2.St} {vs : List Nat} : L2.wipe (L2.wipe σ vs) vs = L2.wipe σ vs := wipe_eq (wipe_length σ vs) fun j hj => wipe_out hj
theorem Lone.wiped {g : Gx} {B : Hp} {ρ : List Addr} {st : St} {σ σ' : L2.St} {p : Addr} {vs : List Nat} (l : Lone g B ρ st σ p) (h : ∀ j, j ∉ vs → σ'[j]? = σ[j]?) : Lone g B ρ { st with env := wipeEnv st.env vs } σ' p :=
  ⟨l.nb, l.np, l.nc, fun i ds e => by
    obtain ⟨h1, h2⟩ := wipeEnv_get e
    rw [h i h1]
    exact l.ns i ds h2⟩
theorem good_comp {wi : TI} {i : EvI} {tg : TG} {gv : EvG} {vs ws : List Nat} (hw : ∀ j ∈ ws, j ∈ vs) (hi : GoodI K T W wi i) (hg : GoodG K tg gv ws) (ht : GoodT K T WF tt et) (he : GoodE K T WF ta a) :
    GoodE K T W (tLc wi tg tt ta vs) (eComp i gv et a vs) := by
  intro g B ρ st σ H rel
  unfold eComp tLc
  refine Res.bind (U := wi σ H) (hi g B ρ st σ H rel) fun xs s1 B1 ρ1 J H1 _ m1 r1 itr => ?_
  split
  · rename_i hc
    cases er : compGo gv et a vs xs [] { s1 with env := wipeEnv s1.env vs } with
    | no => trivial
    | ex xc s => trivial
    | ok ys s2 =>
      intro Q hQ Dl hD
      have lo0 := r1.lone hD
      refine ⟨fun k m H' => m = xs.length - k ∧ k ≤ xs.length ∧ ∃ B2 ρ2 st2 acc us, Mono B1 ρ1 B2 ρ2 ∧ Rel K g B2 ρ2 st2 (L2.wipe σ vs) H' ∧ Lone g B2 ρ2 st2 (L2.wipe σ vs) Dl ∧ H' Dl = some (.lst us) ∧ Reps K B2 ρ2 us acc ∧ compGo gv et a vs (xs.drop k) acc st2 = .ok ys s2, ⟨xs.length, by simp, Nat.zero_le _, B1, ρ1, _, [], [], Mono.refl _ _, (r1.put lo0).wipe, lo0.wiped fun j hj => wipe_out hj, upd_same, .nil, er⟩, ?_⟩
      rintro k m H2 ⟨rfl, hk, B2, ρ2, st2, acc, us, m2, r2, lo, hu, ru, go⟩
      by_cases hlt : k < xs.length
      · have hx : xs[k]? = some xs[k] := List.getElem?_eq_getElem hlt
        rw [List.drop_eq_getElem_cons hlt] at go
        unfold compGo at go
        have rg := r2.guard lo hu
        obtain ⟨jg, jy⟩ := (itr _ k B2 ρ2 st2 _ H2 m2 rg).1 _ hx
        refine .inr ⟨jg, fun H' => ∃ B3 ρ3 st3 acc3 us3, Mono B1 ρ1 B3 ρ3 ∧ Rel K g B3 ρ3 st3 (L2.wipe σ vs) H' ∧ Lone g B3 ρ3 st3 (L2.wipe σ vs) Dl ∧ H' Dl = some (.lst us3) ∧ Reps K B3 ρ3 us3 acc3 ∧ compGo gv et a vs (xs.drop (k + 1)) acc3 st3 = .ok ys s2, fun H' nx => ⟨xs.length - (k + 1), by omega, rfl, hlt, nx⟩, fun x H' hy => ?_⟩
        obtain ⟨B3, s3, r3, rx⟩ := jy x H' hy
        have m3 : Mono B1 ρ1 B3 ρ2 := ⟨m2.b.trans s3, m2.r⟩
        cases eg : gv xs[k] st2 with
        | none => rw [eg] at go; cases go
        | some s4 =>
          rw [eg] at go
          refine hg _ B3 ρ2 st2 _ H' x _ s4 r3 rx eg _ fun σ4 r4 hj4 => ?_
          have hl4 : σ4.length = (L2.wipe σ vs).length := hj4.1
          have hw4 : L2.wipe σ4 vs = L2.wipe σ vs := by
            rw [wipe_eq hl4 fun j hj => hj4.2 j fun z => hj (hw j z), wipe_wipe]
          have out4 : ∀ j, j ∉ vs → (L2.wipe σ vs)[j]? = σ4[j]? := fun j hj => (hj4.2 j fun z => hj (hw j z)).symm
          have h0 : g.B0 Dl = none := lo.no0 r2
          have hP : g.P Dl = none := lo.np
          refine ⟨hw4, ?_⟩
          have zt := ht _ B3 ρ2 s4 σ4 H' r4
          have go : ((et s4).bind fun b s2 => if b = true then (a s2).bind fun y s3 => (if acc.length < many then compGo gv et a vs (xs.drop (k + 1)) (acc ++ [y.d]) { s3 with env := wipeEnv s3.env vs } else .no) else compGo gv et a vs (xs.drop (k + 1)) acc { s2 with env := wipeEnv s2.env vs }) = .ok ys s2 := go
          cases et' : et s4 with
          | no => rw [et'] at go; cases go
          | ex x s => rw [et'] at go; cases go
          | ok b s5 =>
            rw [et'] at zt go
            rw [R.bind_ok] at go
            refine zt _ fun B5 ρ5 b' H5 m5 r5 o5 => ?_
            have m5' : Mono B1 ρ1 B5 ρ5 := m3.trans m5
            cases b with
            | false =>
              obtain rfl : b' = false := o5
              rw [if_neg (by decide)] at go ⊢
              obtain ⟨r6, h6, lo6⟩ := r5.unguard h0 hP fun _ => lst_code
              have r7 := r6.wipe (vs := vs)
              rw [hw4] at r7
              exact ⟨B5, ρ5, _, acc, us, m5', r7, lo6.wiped out4, h6, ru.up ((Mono.trans ⟨s3, Pre.refl _⟩ m5)), go⟩
            | true =>
              obtain rfl : b' = true := o5
              rw [if_pos rfl] at go ⊢
              have ze := (he _ B5 ρ5 s5 σ4 H5 r5).share
              cases ea : a s5 with
              | no => rw [ea] at go; cases go
              | ex x s => rw [ea] at go; cases go
              | ok v s6 =>
                rw [ea] at ze go
                rw [R.bind_ok] at go
                split at go
                · rename_i hz
                  refine ze _ fun B6 ρ6 y H6 m6 r6 o6 => ?_
                  obtain ⟨r7, h7, lo7⟩ := r6.unguard h0 hP fun _ => lst_code
                  have ru6 : Reps K B6 ρ6 us acc := ru.up ((Mono.trans ⟨s3, Pre.refl _⟩ m5).trans m6)
                  refine ⟨us, h7, many_lt (by rw [ru.length]; exact hz), ?_⟩
                  have r8 := (r7.put (o := .lst (us ++ [y])) lo7).wipe (vs := vs)
                  rw [hw4] at r8
                  exact ⟨B6, ρ6, _, acc ++ [v.d], us ++ [y], m5'.trans m6, r8, lo7.wiped out4, upd_same, ru6.append (Reps.one o6), go⟩
                · cases go
      · have e : k = xs.length := by omega
        refine .inl ⟨(itr g k B2 ρ2 st2 _ H2 m2 r2).2 (by omega), ?_⟩
        rw [e, List.drop_length] at go
        cases go
        have lo' : Lone g B2 ρ2 { s2 with env := restore s1.env s2.env vs } σ Dl := by
          have hl : s2.env.length = s1.env.length := by
            rw [r2.len, wipe_length, r1.len]
          refine ⟨lo.nb, lo.np, lo.nc, fun j ds ej => ?_⟩
          rcases restore_get hl ej with ⟨h1, h2⟩ | ⟨h1, h2⟩
          · exact absurd h2 (calm_get hc h1)
          · rw [← wipe_out h1]
            exact lo.ns j ds h2
        exact hQ B2 ρ2 (.ref Dl) H2 m2 (r1.back m2 hc r2) ⟨Dl, us, rfl, hu, ru, lo'⟩
  · trivial
theorem good_yes : GoodT K T W L2.tYes tYes := fun g B ρ st σ H r => Res.now (x := true) (fun Q q => q) (Mono.refl _ _) r rfl
end
end Mini

set_option Elab.async false
set_option linter.all false
set_option maxRecDepth 100000
set_option maxHeartbeats 1000000
/-! PySE6: statements, defs. -/
namespace Mini
open PySem PySem.Spec PyProof.Rows L2
section
variable (K : PySem.W.Frag) (T : XT) (W : WX) (g : Gx)
/-- a statement's end o, told of its reading G -/
def EndS (B : Hp) (ρ : List Addr) (D : Ends) (o : O) (G : Prop) : Prop :=
  match o with
  | .nx st' => (∀ B' ρ' σ' H', Mono B ρ B' ρ' → Rel K g B' ρ' st' σ' H' → D.nx σ' H') → G
  | .bk st' => (∀ B' ρ' σ' H', Mono B ρ B' ρ' → Rel K g B' ρ' st' σ' H' → D.bk σ' H') → G
  | .ct st' => (∀ B' ρ' σ' H', Mono B ρ B' ρ' → Rel K g B' ρ' st' σ' H' → D.ct σ' H') → G
  | .rt v st' => (∀ B' ρ' σ' x H', Mono B ρ B' ρ' → Rel K g B' ρ' st' σ' H' → OutR K g B' ρ' st' σ' H' x v → D.rt x H') → G
  | .ex xc st' => (∀ B' ρ' σ' cls d H', Mono B ρ B' ρ' → Rel K g B' ρ' st' σ' H' → XcR K T B' ρ' H' xc cls d → W cls d σ' H') → G
  | .no => True
end
/-- what is wanted behind o -/
def Want (K : PySem.W.Frag) (T : XT) (W : WX) (g : Gx) (B : Hp) (ρ : List Addr) (D : Ends) (o : O) : Prop :=
  match o with
  | .nx st' => ∀ B' ρ' σ' H', Mono B ρ B' ρ' → Rel K g B' ρ' st' σ' H' → D.nx σ' H'
  | .bk st' => ∀ B' ρ' σ' H', Mono B ρ B' ρ' → Rel K g B' ρ' st' σ' H' → D.bk σ' H'
  | .ct st' => ∀ B' ρ' σ' H', Mono B ρ B' ρ' → Rel K g B' ρ' st' σ' H' → D.ct σ' H'
  | .rt v st' => ∀ B' ρ' σ' x H', Mono B ρ B' ρ' → Rel K g B' ρ' st' σ' H' → OutR K g B' ρ' st' σ' H' x v → D.rt x H'
  | .ex xc st' => ∀ B' ρ' σ' cls d H', Mono B ρ B' ρ' → Rel K g B' ρ' st' σ' H' → XcR K T B' ρ' H' xc cls d → W cls d σ' H'
  | .no => False
section
variable {K : PySem.W.Frag} {T : XT} {W : WX} {g : Gx} {B B' : Hp} {ρ ρ' : List Addr} {σ : L2.St} {D : Ends} {o : O} {G : Prop}
theorem EndS.of (h : Want K T W g B ρ D o → G) : EndS K T W g B ρ D o G := by
  cases o with
  | no => trivial
  | nx s => exact h
  | bk s => exact h
  | ct s => exact h
  | rt v s => exact h
  | ex x s => exact h
theorem EndS.to (h : EndS K T W g B ρ D o G) (w : Want K T W g B ρ D o) : G := by
  cases o with
  | no => exact w.elim
  | nx s => exact h w
  | bk s => exact h w
  | ct s => exact h w
  | rt v s => exact h w
  | ex x s => exact h w
theorem Want.up (w : Want K T W g B ρ D o) (m : Mono B ρ B' ρ') : Want K T W g B' ρ' D o := by
  cases o with
  | no => exact w
  | nx s => exact fun B2 ρ2 σ' H' m2 r => w B2 ρ2 σ' H' (m.trans m2) r
  | bk s => exact fun B2 ρ2 σ' H' m2 r => w B2 ρ2 σ' H' (m.trans m2) r
  | ct s => exact fun B2 ρ2 σ' H' m2 r => w B2 ρ2 σ' H' (m.trans m2) r
  | rt v s => exact fun B2 ρ2 σ' x H' m2 r => w B2 ρ2 σ' x H' (m.trans m2) r
  | ex x s => exact fun B2 ρ2 σ' cls d H' m2 r => w B2 ρ2 σ' cls d H' (m.trans m2) r
theorem EndS.bind {α β : Type} {U : (β → Hp → Prop) → Prop} {Oo : α → Hp → List Addr → St → Hp → β → Prop} {r : R α} {U2 : β → Hp → Prop} {f : α → St → O}
    (h : Res K T W g B ρ σ U Oo r) (h2 : ∀ a st' B' ρ' x H', r = .ok a st' → Mono B ρ B' ρ' → Rel K g B' ρ' st' σ H' → Oo a B' ρ' st' H' x → EndS K T W g B' ρ' D (f a st') (U2 x H')) :
    EndS K T W g B ρ D (r.thenS f) (U fun x H' => U2 x H') := by
  cases r with
  | no => trivial
  | ex xc st' => exact fun w => h _ fun B' ρ' cls d H' m r' x => w B' ρ' σ cls d H' m r' x
  | ok a st' =>
    show EndS K T W g B ρ D (f a st') _
    exact EndS.of fun w => h _ fun B' ρ' x H' m r' o => (h2 a st' B' ρ' x H' rfl m r' o).to (w.up m)
end
def GoodS (K : PySem.W.Frag) (T : XT) (W : WX) (t : TS) (s : EvS) : Prop := ∀ g B ρ st σ H D, Rel K g B ρ st σ H → EndS K T W g B ρ D (s st) (t D σ H)
section
variable {K : PySem.W.Frag} {T : XT} {W : WX} {ta tb tc : TE} {a b c : EvE} {va : TA} {l : EvA} {tt tu : TT} {et eu : EvT} {s1 s2 : TS} {e1 e2 : EvS}
theorem good_sno {t : TS} : GoodS K T W t sNo := fun _ _ _ _ _ _ _ _ => trivial
theorem good_pass : GoodS K T W tNext sPass := fun g B ρ st σ H D r w => w B ρ σ H (Mono.refl _ _) r
theorem good_break : GoodS K T W tBreak sBreak := fun g B ρ st σ H D r w => w B ρ σ H (Mono.refl _ _) r
theorem good_cont : GoodS K T W tCont sCont := fun g B ρ st σ H D r w => w B ρ σ H (Mono.refl _ _) r
theorem good_seq (h1 : GoodS K T W s1 e1) (h2 : GoodS K T W s2 e2) : GoodS K T W (tSeq s1 s2) (sSeq e1 e2) := by
  intro g B ρ st σ H D rel
  have z := h1 g B ρ st σ H { D with nx := s2 D } rel
  unfold sSeq tSeq
  refine EndS.of fun w => z.to ?_
  cases e : e1 st with
  | no => rw [e] at w; exact w.elim
  | nx st1 =>
    rw [e] at w
    exact fun B' ρ' σ' H' m r' => (h2 g B' ρ' st1 σ' H' D r').to (Want.up (o := e2 st1) w m)
  | bk st1 => rw [e] at w; exact w
  | ct st1 => rw [e] at w; exact w
  | rt v st1 => rw [e] at w; exact w
  | ex x st1 => rw [e] at w; exact w
theorem good_set {i : Nat} (ha : GoodE K T W ta a) : GoodS K T W (tAsg ta (gName i)) (sSet i a) := by
  intro g B ρ st σ H D rel
  unfold sSet tAsg
  refine EndS.bind (U := ta σ H) (U2 := fun x H1 => gName i x σ H1 D.nx) (ha g B ρ st σ H rel) fun v st1 B1 ρ1 x H1 _ m1 r1 o1 => ?_
  split
  · rename_i hi
    exact fun w => w B1 ρ1 _ H1 (Mono.refl _ _) (r1.setSlot hi o1)
  · trivial
theorem good_get {tg : TG} {gv : EvG} {vs : List Nat} (hg : GoodG K tg gv vs) (ha : GoodE K T W ta a) : GoodS K T W (tAsg ta tg) (sGet gv a) := by
  intro g B ρ st σ H D rel
  unfold sGet tAsg
  refine EndS.bind (U := ta σ H) (U2 := fun x H1 => tg x σ H1 D.nx) (ha.share rel) fun v st1 B1 ρ1 x H1 _ m1 r1 o1 => ?_
  cases e : gv v.d st1 with
  | none => trivial
  | some st2 => exact fun w => hg g B1 ρ1 st1 σ H1 x _ st2 r1 o1 e _ fun σ' r' _ => w B1 ρ1 σ' H1 (Mono.refl _ _) r'
theorem good_ret (ha : GoodE K T W ta a) : GoodS K T W (tRet ta) (sRet a) := by
  intro g B ρ st σ H D rel
  unfold sRet tRet
  refine EndS.bind (U := ta σ H) (U2 := fun x H1 => D.rt x H1) (ha g B ρ st σ H rel) fun v st1 B1 ρ1 x H1 _ m1 r1 o1 => ?_
  exact fun w => w B1 ρ1 σ x H1 (Mono.refl _ _) r1 o1
theorem good_own {i : Nat} : GoodE K T W (tVar i) (eOwn i) := by
  intro g B ρ st σ H rel
  unfold eOwn
  split
  · rename_i ds e
    obtain ⟨p, vs, h1, h2, h3⟩ := rel.ownH e
    exact Res.now (x := .ref p) (fun Q q => ⟨_, h1, q⟩) (Mono.refl _ _) rel.forget ⟨p, vs, rfl, h2, h3, rel.takeOut e h1⟩
  · rename_i d e
    obtain ⟨x, h1, h2⟩ := rel.slot i _ e
    exact Res.now (x := x) (fun Q q => ⟨x, h1, q⟩) (Mono.refl _ _) rel h2
  · trivial
theorem good_retN : GoodS K T W tRetN sRetN := fun g B ρ st σ H D r w => w B ρ σ .non H (Mono.refl _ _) r .non
theorem good_sif (ht : GoodT K T W tt et) (h1 : GoodS K T W s1 e1) (h2 : GoodS K T W s2 e2) : GoodS K T W (tIfS tt s1 s2) (sIf et e1 e2) := by
  intro g B ρ st σ H D rel
  unfold sIf tIfS
  refine EndS.bind (U := tt σ H) (U2 := fun b H1 => if b = true then s1 D σ H1 else s2 D σ H1) (ht g B ρ st σ H rel) fun v st1 B1 ρ1 x H1 _ m1 r1 o1 => ?_
  obtain rfl : x = v := o1
  cases x with
  | true => exact h1 g B1 ρ1 st1 σ H1 D r1
  | false => exact h2 g B1 ρ1 st1 σ H1 D r1
theorem good_drop (ha : GoodE K T W ta a) : GoodS K T W (tDrop ta) (sDrop a) := by
  intro g B ρ st σ H D rel
  unfold sDrop tDrop
  refine EndS.bind (U := ta σ H) (U2 := fun _ H1 => D.nx σ H1) (ha g B ρ st σ H rel) fun v st1 B1 ρ1 x H1 _ m1 r1 o1 => ?_
  exact fun w => w B1 ρ1 σ H1 (Mono.refl _ _) r1
theorem good_app {i : Nat} (ha : GoodE K T W ta a) : GoodS K T W (tDrop (tBM K "list" rAppend (tVar i) (tCons ta tNil))) (sApp i a) := by
  intro g B ρ st σ H D rel
  unfold sApp tDrop tBM
  split
  · rename_i xs0 e0
    obtain ⟨p, vs0, h1, h2, h3⟩ := rel.ownH e0
    have z : EndS K T W g B ρ D ((a st).thenS fun v s1 => (match s1.env[i]? with
      | some (some (.ow xs)) => if xs.length < many then O.nx { s1 with env := s1.env.set i (some (.ow (xs ++ [v.d]))) } else .no
      | _ => .no)) (ta σ H fun y H2 => rAppend (.ref p) [y] H2 fun _ H3 => D.nx σ H3) := by
      refine EndS.bind (U := ta σ H) (U2 := fun y H2 => rAppend (.ref p) [y] H2 fun _ H3 => D.nx σ H3) (ha.share rel) fun v st1 B1 ρ1 x H1 _ m1 r1 o1 => ?_
      split
      · rename_i xs e4
        obtain ⟨p', vs, h4, h5, h6⟩ := r1.ownH e4
        rw [h1] at h4
        cases h4
        split
        · rename_i hz
          have lo := r1.takeOut e4 h1
          have hi : i < st1.env.length := (List.getElem?_eq_some_iff.mp e4).1
          have r3 := ((r1.forget (i := i)).put (o := .lst (vs ++ [x])) lo).backIn hi h1 lo upd_same (h6.append (Reps.one o1))
          exact fun w => ⟨_, _, _, rfl, rfl, h5, many_lt (by rw [h6.length]; exact hz), w B1 ρ1 σ _ (Mono.refl _ _) r3⟩
        · trivial
      · trivial
    exact EndS.of fun w => ⟨_, h1, .inl ⟨rfl, _, SqL.of h2⟩, z.to w⟩
  · trivial
theorem good_appC (ha : GoodE K T W ta a) (hb : GoodE K T W tb b) : GoodS K T W (tDrop (tBM K "list" rAppend ta (tCons tb tNil))) (sAppC a b) := by
  intro g B ρ st σ H D rel
  unfold sAppC tDrop tBM
  refine EndS.bind (U := ta σ H) (U2 := fun x H1 => tyV K "list" x H1 ∧ tCons tb tNil σ H1 fun xs H2 => rAppend x xs H2 fun _ H3 => D.nx σ H3) (ha.share rel) fun v st1 B1 ρ1 x H1 _ m1 r1 o1 => ?_
  have o1 : Rep K B1 ρ1 x v.d := o1
  split
  · rename_i n e1
    rw [e1] at o1
    cases o1 with
    | @cell ad _ hn =>
      split
      · rename_i xs0 hc0
        obtain ⟨u, hu, vs0, e3, hp0⟩ := r1.cell n _ _ hc0 hn
        subst e3
        have z : EndS K T W g B1 ρ1 D ((b st1).thenS fun v s2 => (match s2.om[n]? with
          | some (.lst xs) => if xs.length < many then O.nx { s2 with om := s2.om.set n (.lst (xs ++ [v.d])) } else .no
          | _ => .no)) (tb σ H1 fun y H2 => rAppend (.ref ad) [y] H2 fun _ H3 => D.nx σ H3) := by
          refine EndS.bind (U := tb σ H1) (U2 := fun y H2 => rAppend (.ref ad) [y] H2 fun _ H3 => D.nx σ H3) (hb.share r1) fun w st2 B2 ρ2 y H2 _ m2 r2 o2 => ?_
          split
          · rename_i xs hc
            have hn2 := m2.r _ _ hn
            obtain ⟨u2, hu2, vs, e5, hp⟩ := r2.cell n _ _ hc hn2
            subst e5
            split
            · rename_i hz
              have r3 := r2.setCell (c := .lst (xs ++ [w.d])) (o := .lst (vs ++ [y])) hn2 ⟨_, rfl, hp.append (Reps.one o2)⟩
              exact fun w => ⟨_, _, _, rfl, rfl, hu2, many_lt (by rw [hp.length]; exact hz), w B2 ρ2 σ _ (Mono.refl _ _) r3⟩
            · trivial
          · trivial
        exact EndS.of fun w => ⟨.inl ⟨rfl, _, SqL.of hu⟩, z.to w⟩
      · trivial
  · trivial
theorem kv_len {B : Hp} {ρ : List Addr} {kws : List (Key × V)} {kvs : List (Ky × D)} (h : Paired (fun (p : Key × V) (q : Ky × D) => p.1 = q.1 ∧ Rep K B ρ p.2 q.2) kws kvs) : kws.length = kvs.length := Paired.length h
theorem good_dput (ha : GoodE K T W ta a) (hb : GoodE K T W tb b) (hc : GoodE K T W tc c) : GoodS K T W (L2.sDPut ta tb tc) (sDPut a b c) := by
  intro g B ρ st σ H D rel
  unfold sDPut L2.sDPut
  refine EndS.bind (U := tc σ H) (U2 := fun v H1 => ta σ H1 fun x H2 => tb σ H2 fun y H3 => ∃ a H4, x = V.ref a ∧ DPut H3 a y v H4 ∧ D.nx σ H4) (hc.share rel) fun v st1 B1 ρ1 xv H1 _ m1 r1 o1 => ?_
  refine EndS.bind (U := ta σ H1) (U2 := fun x H2 => tb σ H2 fun y H3 => ∃ a H4, x = V.ref a ∧ DPut H3 a y xv H4 ∧ D.nx σ H4) (ha.share r1) fun w st2 B2 ρ2 xd H2 _ m2 r2 o2 => ?_
  refine EndS.bind (U := tb σ H2) (U2 := fun y H3 => ∃ a H4, xd = V.ref a ∧ DPut H3 a y xv H4 ∧ D.nx σ H4) (hb.share r2) fun k st3 B3 ρ3 xk H3 _ m3 r3 o3 => ?_
  have o2 : Rep K B3 ρ3 xd w.d := o2.up m3
  have o1 : Rep K B3 ρ3 xv v.d := (Rep.up o1 m2).up m3
  split
  · rename_i n ky e1 e2
    rw [e1] at o2
    cases o2 with
    | @cell ad _ hn =>
      split
      · rename_i kvs hcl
        obtain ⟨u, hu, kws, e5, hp⟩ := r3.cell n _ _ hcl hn
        subst e5
        split
        · rename_i hz
          have r4 := r3.setCell (c := .dK (kvPut kvs ky v.d)) (o := .dK (putK kws ky xv)) hn ⟨_, rfl, kv_put o1 hp⟩
          refine fun w => ⟨_, _, rfl, ?_, w B3 ρ3 σ _ (Mono.refl _ _) r4⟩
          rw [Mini.D.ky_rep o3 e2]
          exact DPut.k hu (many_lt (by rw [kv_len hp]; exact hz))
        · trivial
      · trivial
  · trivial

/-! ### a, b = x, y -/
/-- several values, apart -/
def OutRs (K : PySem.W.Frag) (g : Gx) (B : Hp) (ρ : List Addr) (st : St) (σ : L2.St) (H : Hp) : List V → List Vl → Prop
  | [], [] => True
  | x :: xs, v :: vs => OutR K g B ρ st σ H x v ∧ OutRs K g B ρ st σ H xs vs ∧ ∀ (k : Nat) (ds es : List D) (p : Addr), v = .ow ds → x = .ref p → vs[k]? = some (.ow es) → xs[k]? ≠ some (.ref p)
  | _, _ => False
theorem OutRs.get {g : Gx} {B : Hp} {ρ : List Addr} {st : St} {σ : L2.St} {H : Hp} : ∀ {xs : List V} {vs : List Vl} {k : Nat} {v : Vl}, OutRs K g B ρ st σ H xs vs → vs[k]? = some v → ∃ x, xs[k]? = some x ∧ OutR K g B ρ st σ H x v
  | [], [], _, _, _, e => by simp at e
  | x :: xs, v :: vs, 0, _, h, e => by
    have e' := Option.some.inj e
    exact ⟨x, rfl, e' ▸ h.1⟩
  | x :: xs, v :: vs, k + 1, w, h, e => by
    obtain ⟨y, h1, h2⟩ := OutRs.get (k := k) (v := w) h.2.1 (by simpa using e)
    exact ⟨y, by simpa using h1, h2⟩
  | [], _ :: _, _, _, h, _ => h.elim
  | _ :: _, [], _, _, h, _ => h.elim
theorem OutRs.unguard {g : Gx} {B : Hp} {ρ : List Addr} {st : St} {σ : L2.St} {H : Hp} {p : Addr} {o : HO} (hg : g.P p = none) : ∀ {xs : List V} {vs : List Vl}, OutRs K (g.guard p o) B ρ st σ H xs vs →
    OutRs K g B ρ st σ H xs vs ∧ ∀ (k : Nat) (es : List D), vs[k]? = some (.ow es) → xs[k]? ≠ some (.ref p)
  | [], [], _ => ⟨trivial, fun k es e => by simp at e⟩
  | x :: xs, v :: vs, h => by
    obtain ⟨h1, h2, h3⟩ := h
    obtain ⟨i1, i2⟩ := OutRs.unguard hg h2
    have hP : ∀ q, (g.guard p o).P q = none → g.P q = none ∧ q ≠ p := fun q e => by
      have e' : upd g.P p o q = none := e
      by_cases z : q = p
      · rw [z, upd_same] at e'
        cases e'
      · rw [upd_ne z] at e'
        exact ⟨e', z⟩
    have o1 : OutR K g B ρ st σ H x v ∧ ∀ es, v = .ow es → x ≠ .ref p := by
      cases v with
      | sh d => exact ⟨h1, fun es e => by cases e⟩
      | ow ds =>
        obtain ⟨q, us, a1, a2, a3, l⟩ := h1
        obtain ⟨z1, z2⟩ := hP q l.np
        refine ⟨⟨q, us, a1, a2, a3, l.nb, z1, l.nc, l.ns⟩, fun es e z => ?_⟩
        rw [a1] at z
        cases z
        exact z2 rfl
    refine ⟨⟨o1.1, i1, h3⟩, fun k es e => ?_⟩
    cases k with
    | zero =>
      have e' := Option.some.inj e
      exact fun z => o1.2 es e' (Option.some.inj z)
    | succ k => exact i2 k es (by simpa using e)
  | [], _ :: _, h => h.elim
  | _ :: _, [], h => h.elim
def GoodVs (K : PySem.W.Frag) (T : XT) (W : WX) (t : TA) (es : List EvE) : Prop := ∀ g B ρ st σ H, Rel K g B ρ st σ H → Res K T W g B ρ σ (t σ H) (fun vs B' ρ' st' H' xs => OutRs K g B' ρ' st' σ H' xs vs) (eVals es st)
theorem good_vnil : GoodVs K T W tNil [] := fun g B ρ st σ H r => Res.now (x := []) (fun Q q => q) (Mono.refl _ _) r trivial
theorem good_vcons {es : List EvE} (ha : GoodE K T W ta a) (hl : GoodVs K T W va es) : GoodVs K T W (tCons ta va) (a :: es) := by
  intro g B ρ st σ H rel
  unfold tCons
  show Res K T W g B ρ σ (fun Q => ta σ H fun x H1 => va σ H1 fun xs H2 => Q (x :: xs) H2) _ ((a st).bind fun v s1 => (eVals es s1).bind fun vs s2 => .ok (v :: vs) s2)
  refine Res.bind (U := ta σ H) (U2 := fun x H1 Q => va σ H1 fun xs H2 => Q (x :: xs) H2) (ha g B ρ st σ H rel) fun v st1 B1 ρ1 x H1 _ m1 r1 o1 => ?_
  cases v with
  | sh d =>
    have o1 : Rep K B1 ρ1 x d := o1
    refine Res.bind (U := va σ H1) (U2 := fun xs H2 Q => Q (x :: xs) H2) (hl g B1 ρ1 st1 σ H1 r1) fun vs st2 B2 ρ2 xs H2 _ m2 r2 o2 => ?_
    exact Res.now (x := x :: xs) (fun Q q => q) (Mono.refl _ _) r2 ⟨o1.up m2, o2, fun k ds es p e => by cases e⟩
  | ow ds =>
    obtain ⟨p, us, rfl, h2, h3, lo⟩ := o1
    have z := hl (g.guard p (.lst us)) B1 ρ1 st1 σ H1 (r1.guard lo h2)
    cases e : eVals es st1 with
    | no => trivial
    | ex xc st2 =>
      rw [e] at z
      refine fun Q hQ => z _ fun B' ρ' cls d H' m r o => ?_
      exact hQ B' ρ' cls d H' m (r.unguard (lo.no0 r1) lo.np (fun _ => lst_code)).1 o
    | ok vs st2 =>
      rw [e] at z
      refine fun Q hQ => z _ fun B' ρ' xs H' m r o => ?_
      obtain ⟨r', h4, lo'⟩ := r.unguard (lo.no0 r1) lo.np (fun _ => lst_code)
      obtain ⟨o', ap⟩ := OutRs.unguard lo.np o
      refine hQ B' ρ' (.ref p :: xs) H' m r' ⟨⟨p, us, rfl, h4, h3.up m, lo'⟩, o', fun k ds' es' q e1 e2 e3 => ?_⟩
      cases e2
      exact ap k es' e3
def setAllV : L2.St → List Nat → List V → L2.St
  | σ, i :: is, x :: xs => setAllV (σ.set i (some x)) is xs
  | σ, _, _ => σ
theorem Rel.setAll {g : Gx} {B : Hp} {ρ : List Addr} {H : Hp} : ∀ {is : List Nat} {xs : List V} {vs : List Vl} {st : St} {σ : L2.St}, Rel K g B ρ st σ H → OutRs K g B ρ st σ H xs vs → (∀ i ∈ is, i < st.env.length) → Rel K g B ρ { st with env := setAll st.env is vs } (setAllV σ is xs) H
  | [], [], [], st, σ, r, _, _ => r
  | [], _ :: _, _ :: _, st, σ, r, _, _ => r
  | i :: is, [], [], st, σ, r, _, _ => r
  | i :: is, x :: xs, v :: vs, st, σ, r, o, hi => by
    have r1 := r.setSlot (i := i) (v := v) (x := x) (hi i (by simp)) o.1
    have o2 : OutRs K g B ρ { st with env := st.env.set i (some v) } (σ.set i (some x)) H xs vs := by
      have key : ∀ (ys : List V) (ws : List Vl), OutRs K g B ρ st σ H ys ws → (∀ (k : Nat) (ds es : List D) (p : Addr), v = .ow ds → x = .ref p → ws[k]? = some (.ow es) → ys[k]? ≠ some (.ref p)) → OutRs K g B ρ { st with env := st.env.set i (some v) } (σ.set i (some x)) H ys ws := by
        intro ys ws
        induction ys generalizing ws with
        | nil =>
          intro h _
          cases ws with
          | nil => trivial
          | cons w ws => exact h.elim
        | cons y ys ih =>
          intro h ap
          cases ws with
          | nil => exact h.elim
          | cons w ws =>
            obtain ⟨h1, h2, h3⟩ := h
            refine ⟨?_, ih ws h2 fun k ds es p e1 e2 e3 => by simpa using ap (k + 1) ds es p e1 e2 (by simpa using e3), h3⟩
            cases w with
            | sh d => exact h1
            | ow ds =>
              obtain ⟨q, us, a1, a2, a3, l⟩ := h1
              refine ⟨q, us, a1, a2, a3, l.nb, l.np, l.nc, fun j es ej ej2 => ?_⟩
              have ej' : (st.env.set i (some v))[j]? = some (some (Vl.ow es)) := ej
              rw [getElem?_set'] at ej' ej2
              by_cases hj : i = j
              · rw [if_pos hj] at ej' ej2
                split at ej'
                · split at ej2
                  · have e1 : v = .ow es := Option.some.inj (Option.some.inj ej')
                    have e2 : x = .ref q := Option.some.inj (Option.some.inj ej2)
                    exact ap 0 es ds q e1 e2 rfl (by rw [a1]; rfl)
                  · cases ej2
                · cases ej'
              · rw [if_neg hj] at ej' ej2
                exact l.ns j es ej' ej2
      exact key xs vs o.2.1 o.2.2
    exact Rel.setAll (st := { st with env := st.env.set i (some v) }) (σ := σ.set i (some x)) (is := is) (xs := xs) (vs := vs) r1 o2 fun j hj => by
      show j < (st.env.set i (some v)).length
      rw [List.length_set]
      exact hi j (by simp [hj])
  | [], [], _ :: _, st, σ, r, o, _ => o.elim
  | [], _ :: _, [], st, σ, r, o, _ => o.elim
  | _ :: _, [], _ :: _, st, σ, r, o, _ => o.elim
  | _ :: _, _ :: _, [], st, σ, r, o, _ => o.elim
theorem OutRs.len {g : Gx} {B : Hp} {ρ : List Addr} {st : St} {σ : L2.St} {H : Hp} : ∀ {xs : List V} {vs : List Vl}, OutRs K g B ρ st σ H xs vs → xs.length = vs.length
  | [], [], _ => rfl
  | x :: xs, v :: vs, h => by rw [List.length_cons, List.length_cons, OutRs.len h.2.1]
  | [], _ :: _, h => h.elim
  | _ :: _, [], h => h.elim
theorem vals_len : ∀ {es : List EvE} {st st' : St} {vs : List Vl}, eVals es st = .ok vs st' → vs.length = es.length
  | [], st, st', vs, h => by cases h; rfl
  | e :: es, st, st', vs, h => by
    have h' : ((e st).bind fun v s1 => (eVals es s1).bind fun vs s2 => R.ok (v :: vs) s2) = .ok vs st' := h
    cases e1 : e st with
    | no => rw [e1] at h'; cases h'
    | ex x s => rw [e1] at h'; cases h'
    | ok v s1 =>
      rw [e1, R.bind_ok] at h'
      cases e2 : eVals es s1 with
      | no => rw [e2] at h'; cases h'
      | ex x s => rw [e2] at h'; cases h'
      | ok ws s2 =>
        rw [e2, R.bind_ok] at h'
        cases h'
        rw [List.length_cons, List.length_cons, vals_len e2]
theorem good_par {is : List Nat} {es : List EvE} {Q' : Ends → L2.St → List V → Hp → Prop} (ht : ∀ D σ xs H1, xs.length = es.length → D.nx (setAllV σ is xs) H1 → Q' D σ xs H1) (hl : GoodVs K T W va es) : GoodS K T W (fun D σ H => va σ H (Q' D σ)) (sPar is es) := by
  intro g B ρ st σ H D rel
  unfold sPar
  refine EndS.bind (U := va σ H) (U2 := fun xs H1 => Q' D σ xs H1) (hl g B ρ st σ H rel) fun vs st1 B1 ρ1 xs H1 e m1 r1 o1 => ?_
  split
  · rename_i hz
    rw [List.all_eq_true] at hz
    exact fun w => ht D σ xs H1 (by rw [o1.len, vals_len e]) (w B1 ρ1 _ H1 (Mono.refl _ _) (r1.setAll o1 fun i hi => of_decide_eq_true (hz i hi)))
  · trivial
theorem good_par2 {i j : Nat} (ha : GoodE K T W ta a) (hb : GoodE K T W tb b) : GoodS K T W (tPar i j (tCons ta (tCons tb tNil))) (sPar [i, j] [a, b]) :=
  good_par (va := tCons ta (tCons tb tNil)) (Q' := fun D σ vs H1 => ∃ v w, vs = [v, w] ∧ D.nx ((σ.set i (some v)).set j (some w)) H1) (fun D σ xs H1 hl h => match xs, hl with | [x, y], _ => ⟨x, y, rfl, h⟩) (good_vcons ha (good_vcons hb good_vnil))
theorem good_par3 {i j k : Nat} (ha : GoodE K T W ta a) (hb : GoodE K T W tb b) (hc : GoodE K T W tc c) : GoodS K T W (tPar3 i j k (tCons ta (tCons tb (tCons tc tNil)))) (sPar [i, j, k] [a, b, c]) :=
  good_par (va := tCons ta (tCons tb (tCons tc tNil))) (Q' := fun D σ vs H1 => ∃ u v w, vs = [u, v, w] ∧ D.nx (((σ.set i (some u)).set j (some v)).set k (some w)) H1) (fun D σ xs H1 hl h => match xs, hl with | [x, y, z], _ => ⟨x, y, z, rfl, h⟩) (good_vcons ha (good_vcons hb (good_vcons hc good_vnil)))

/-! ### loops -/
theorem good_for {wi : TI} {i : EvI} {tg : TG} {gv : EvG} {vs : List Nat} {tb : TS} {eb : EvS} (hi : GoodI K T W wi i) (hg : GoodG K tg gv vs) (hb : GoodS K T W tb eb) : GoodS K T W (tFor wi tg tb) (sFor i gv eb) := by
  intro g B ρ st σ H D rel
  unfold sFor tFor
  refine EndS.bind (U := wi σ H) (hi g B ρ st σ H rel) fun xs s1 B1 ρ1 J H1 _ m1 r1 itr => ?_
  refine EndS.of fun w => ?_
  generalize hr : forGo gv eb xs s1 = rr at w
  refine ⟨fun k m σ' H' => m = xs.length - k ∧ k ≤ xs.length ∧ ∃ B2 ρ2 st2, Mono B1 ρ1 B2 ρ2 ∧ Rel K g B2 ρ2 st2 σ' H' ∧ forGo gv eb (xs.drop k) st2 = rr, ⟨xs.length, by simp, Nat.zero_le _, B1, ρ1, s1, Mono.refl _ _, r1, hr⟩, ?_⟩
  rintro k m σ2 H2 ⟨rfl, hk, B2, ρ2, st2, m2, r2, go⟩
  by_cases hlt : k < xs.length
  · have hx : xs[k]? = some xs[k] := List.getElem?_eq_getElem hlt
    rw [List.drop_eq_getElem_cons hlt] at go
    unfold forGo at go
    obtain ⟨jg, jy⟩ := (itr g k B2 ρ2 st2 σ2 H2 m2 r2).1 _ hx
    refine .inr ⟨jg, fun σ' H' => ∃ B3 ρ3 st3, Mono B1 ρ1 B3 ρ3 ∧ Rel K g B3 ρ3 st3 σ' H' ∧ forGo gv eb (xs.drop (k + 1)) st3 = rr, fun σ' H' nx => ⟨xs.length - (k + 1), by omega, rfl, hlt, nx⟩, fun x H' hy => ?_⟩
    obtain ⟨B3, s3, r3, rx⟩ := jy x H' hy
    have m3 : Mono B1 ρ1 B3 ρ2 := ⟨m2.b.trans s3, m2.r⟩
    cases eg : gv xs[k] st2 with
    | none =>
      rw [eg] at go
      rw [← go] at w
      exact w.elim
    | some s4 =>
      rw [eg] at go
      refine hg g B3 ρ2 st2 σ2 H' x _ s4 r3 rx eg _ fun σ4 r4 _ => ?_
      refine (hb g B3 ρ2 s4 σ4 H' _ r4).to ?_
      have go : (match eb s4 with | .nx s2 => forGo gv eb (xs.drop (k + 1)) s2 | .ct s2 => forGo gv eb (xs.drop (k + 1)) s2 | .bk s2 => .nx s2 | .rt v s2 => .rt v s2 | .ex x s2 => .ex x s2 | .no => .no) = rr := go
      rw [← go] at w
      cases e : eb s4 with
      | no => rw [e] at w; exact w.elim
      | nx s5 =>
        rw [e] at go
        exact fun B' ρ' σ' H' m r => ⟨B', ρ', s5, m3.trans m, r, go⟩
      | ct s5 =>
        rw [e] at go
        exact fun B' ρ' σ' H' m r => ⟨B', ρ', s5, m3.trans m, r, go⟩
      | bk s5 =>
        rw [e] at w
        exact fun B' ρ' σ' H' m r => w B' ρ' σ' H' (m3.trans m) r
      | rt v s5 =>
        rw [e] at w
        exact fun B' ρ' σ' y H' m r => w B' ρ' σ' y H' (m3.trans m) r
      | ex x s5 =>
        rw [e] at w
        exact fun B' ρ' σ' cls d H' m r => w B' ρ' σ' cls d H' (m3.trans m) r
  · have e : k = xs.length := by omega
    refine .inl ⟨(itr g k B2 ρ2 st2 _ H2 m2 r2).2 (by omega), ?_⟩
    rw [e, List.drop_length] at go
    rw [← go] at w
    exact w B2 ρ2 σ2 H2 m2 r2
theorem good_while {n : Nat} {tb : TS} {eb : EvS} (ht : GoodT K T W tt et) (hb : GoodS K T W tb eb) : GoodS K T W (tWhile tt tb) (sWhile n et eb) := by
  intro g B ρ st σ H D rel
  unfold sWhile tWhile
  refine EndS.of fun w => ?_
  generalize hr : whileGo et eb n st = rr at w
  refine ⟨fun m σ' H' => ∃ B2 ρ2 st2, Mono B ρ B2 ρ2 ∧ Rel K g B2 ρ2 st2 σ' H' ∧ whileGo et eb m st2 = rr, ⟨n, B, ρ, st, Mono.refl _ _, rel, hr⟩, ?_⟩
  rintro m σ2 H2 ⟨B2, ρ2, st2, m2, r2, go⟩
  cases m with
  | zero =>
    rw [← go] at w
    exact w.elim
  | succ m =>
    have go : ((et st2).thenS fun c s1 => if c = true then (match eb s1 with | .nx s2 => whileGo et eb m s2 | .ct s2 => whileGo et eb m s2 | .bk s2 => .nx s2 | .rt v s2 => .rt v s2 | .ex x s2 => .ex x s2 | .no => .no) else .nx s1) = rr := go
    have zt := ht g B2 ρ2 st2 σ2 H2 r2
    cases e1 : et st2 with
    | no => rw [e1] at go; rw [← go] at w; exact w.elim
    | ex x s =>
      rw [e1] at go zt
      rw [← go] at w
      exact zt _ fun B' ρ' cls d H' m r o => w B' ρ' σ2 cls d H' (m2.trans m) r o
    | ok b s4 =>
      rw [e1] at go zt
      rw [R.thenS_ok] at go
      refine zt _ fun B3 ρ3 b' H3 m3 r3 o3 => ?_
      obtain rfl : b' = b := o3
      cases b' with
      | false =>
        rw [if_neg (by decide)] at go ⊢
        rw [← go] at w
        exact w B3 ρ3 σ2 H3 (m2.trans m3) r3
      | true =>
        rw [if_pos rfl] at go ⊢
        refine ⟨fun σ' H' => ∃ B4 ρ4 st4, Mono B ρ B4 ρ4 ∧ Rel K g B4 ρ4 st4 σ' H' ∧ whileGo et eb m st4 = rr, fun σ' H' h => ⟨m, Nat.lt_succ_self _, h⟩, ?_⟩
        refine (hb g B3 ρ3 s4 σ2 H3 _ r3).to ?_
        rw [← go] at w
        have m3 := m2.trans m3
        cases e : eb s4 with
        | no => rw [e] at w; exact w.elim
        | nx s5 =>
          rw [e] at go
          exact fun B' ρ' σ' H' m r => ⟨B', ρ', s5, m3.trans m, r, go⟩
        | ct s5 =>
          rw [e] at go
          exact fun B' ρ' σ' H' m r => ⟨B', ρ', s5, m3.trans m, r, go⟩
        | bk s5 =>
          rw [e] at w
          exact fun B' ρ' σ' H' m r => w B' ρ' σ' H' (m3.trans m) r
        | rt v s5 =>
          rw [e] at w
          exact fun B' ρ' σ' y H' m r => w B' ρ' σ' y H' (m3.trans m) r
        | ex x s5 =>
          rw [e] at w
          exact fun B' ρ' σ' cls d H' m r => w B' ρ' σ' cls d H' (m3.trans m) r
end

/-! ### defs -/
section
variable {P : Program} {w : World} {K : PySem.W.Frag} {mg : Str → Option Value} {base : Heap} {T : XT}
/-- a body that does what eb says keeps the promise -/
theorem body_ok {N : List Str} {vs : List V} {H : Hp} {Q : VK} {E : XK} {n : Nat} {t : TS} {eb : EvS} (h : GoodS K T (fun cls d _ H => E cls d H) t eb) (hsp : spD K T n (runDef N.length eb) vs H Q E) : t { nx := fun _ H' => Q .non H', rt := Q } (start N vs) H := by
  obtain ⟨_, B, ρ, ds, om, r0, rs, hr⟩ := hsp
  have r1 := r0.enter (N := N) rs
  refine (h _ B ρ _ _ H _ r1).to ?_
  unfold runDef at hr
  cases e : eb { env := (ds.map fun d => some (Vl.sh d)) ++ List.replicate (N.length - ds.length) none, om := om } with
  | no => rw [e] at hr; exact hr.elim
  | bk s => rw [e] at hr; exact hr.elim
  | ct s => rw [e] at hr; exact hr.elim
  | nx s =>
    rw [e] at hr
    exact fun B' ρ' σ' H' m r => hr B' ρ' .non H' m r.leave .non
  | rt v s =>
    rw [e] at hr
    exact fun B' ρ' σ' x H' m r o => hr B' ρ' x H' m r.leave o.leave
  | ex x s =>
    rw [e] at hr
    exact fun B' ρ' σ' cls d H' m r o => hr B' ρ' cls d H' m r.leave o
/-- THE RULE of a def -/
theorem def_ok {x qual : Str} {st : Stmt} {f : Addr} {fd : FuncData} {N ps : List Str} {k : Nat} {eb : EvS} (F : Fun K x qual st f fd) (S : FnScope N ps (defScope st))
    (h : ∀ (cdv : Value) (A : Around) (outer : List Env) (s : Shared) (H : Hp) (E : XK), Room k (A.deeper (envOfC qual (defScope st) s.heap.objs.size f cdv)) →
      ∃ t, PSs (cxOf (L2.CX P w) P w K mg base N qual (defScope st) f cdv A outer s H E) (defBody st) t ∧ GoodS K T (fun cls d _ H => E cls d H) t eb) :
    FnOk P w K mg base (L2.CX P w) (k + 1) f fd ps (spD K T ps.length (runDef N.length eb)) :=
  F.okX S (fun vs H Q E h => h.1) fun cdv A outer s H vs Q E hr hsp => by
    obtain ⟨t, h1, h2⟩ := h cdv A outer s H E hr
    exact ⟨t, h1, body_ok h2 hsp⟩
/-- a def given another function that says the same, or more -/
theorem fn_imp {f : Addr} {fd : FuncData} {ps : List Str} {k n : Nat} {F G : Fn} (h : FnOk P w K mg base (L2.CX P w) k f fd ps (spD K T n F)) (e : ∀ ds om, G ds om ≠ .no → F ds om = G ds om) : FnOk P w K mg base (L2.CX P w) k f fd ps (spD K T n G) :=
  h.imp fun vs H Q E z => by
    obtain ⟨z0, B, ρ, ds, om, r0, rs, hr⟩ := z
    refine ⟨z0, B, ρ, ds, om, r0, rs, ?_⟩
    have hn : G ds om ≠ .no := fun q => by rw [q] at hr; exact hr
    rw [e ds om hn]
    exact hr
end
end Mini

set_option Elab.async false
set_option linter.all false
set_option maxRecDepth 100000
set_option maxHeartbeats 1000000
/-! PySE7: the rules as one writes them. -/
namespace Mini
open PySem PySem.Spec PyProof.Rows L2
structure SW (X : Cx) (K : PySem.W.Frag) (T : XT) (W : WX) (e : Expr) (t : TT) (v : EvT) : Prop where
  pe : PW X e t
  good : GoodT K T W t v
structure SI (X : Cx) (K : PySem.W.Frag) (T : XT) (W : WX) (tg e : Expr) (t : TI) (v : EvI) : Prop where
  pe : PI X tg e t
  good : GoodI K T W t v
structure SG (X : Cx) (K : PySem.W.Frag) (e : Expr) (t : TG) (v : EvG) (vs : List Nat) : Prop where
  pe : PG X e t
  good : GoodG K t v vs
structure SGs (X : Cx) (K : PySem.W.Frag) (es : List Expr) (t : TGs) (v : EvGs) (vs : List Nat) (n : Nat) : Prop where
  pe : PGs X es t
  good : GoodGs K t v vs
  len : LenG v n
structure SQ (X : Cx) (K : PySem.W.Frag) (T : XT) (W : WX) (es : List Expr) (t : TT) (v : EvT) : Prop where
  pe : PTs X es t
  good : GoodT K T W t v
structure SS (X : Cx) (K : PySem.W.Frag) (T : XT) (W : WX) (s : Stmt) (t : TS) (v : EvS) : Prop where
  pe : PS X s t
  good : GoodS K T W t v
structure SB (X : Cx) (K : PySem.W.Frag) (T : XT) (W : WX) (s : List Stmt) (t : TS) (v : EvS) : Prop where
  pe : PSs X s t
  good : GoodS K T W t v
structure SVs (X : Cx) (K : PySem.W.Frag) (T : XT) (W : WX) (es : List Expr) (t : TA) (v : List EvE) : Prop where
  pe : PA X es t
  good : GoodVs K T W t v
structure SD (X : Cx) (K : PySem.W.Frag) (T : XT) (W : WX) (pos : Pos) (keys : List (Option Expr)) (values : List Expr) (trs : List (TE × TE)) (ks : List Str) (v : EvA) : Prop where
  pe : PPs X pos keys values trs
  good : GoodP K T W trs ks v
/-- a def that is called -/
structure Def (P : Program) (w : World) (K : PySem.W.Frag) (mg : Str → Option Value) (base : Heap) (T : XT) (k : Nat) (x : Str) (ps : List Str) (F : Fn) : Prop where
  ex : ∃ f fd, FnOk P w K mg base (L2.CX P w) k f fd ps (spD K T ps.length F) ∧ mg x = some (.ref f) ∧ PySem.W.keepIn K (.ref f) = true ∧ (∀ us : List Value, us.length = ps.length → bindArgs fd ⟨us, []⟩ = pure (ps.zip us)) ∧
    ∃ (oc : Value) (od : Option Addr) (osl : Array (Option Value)), K.lookup f = some ⟨oc, od, .func fd, osl⟩
/-- a def as it stands -/
structure TxtD (K : PySem.W.Frag) (mg : Str → Option Value) (x : Str) (st : Stmt) (ps : List Str) : Prop where
  ex : ∃ f fd, Fun K x x st f fd ∧ mg x = some (.ref f) ∧ ∀ us : List Value, us.length = ps.length → bindArgs fd ⟨us, []⟩ = pure (ps.zip us)
theorem Fun.look {K : PySem.W.Frag} {x q : Str} {st : Stmt} {f : Addr} {fd : FuncData} (F : Fun K x q st f fd) : ∃ (oc : Value) (od : Option Addr) (osl : Array (Option Value)), K.lookup f = some ⟨oc, od, .func fd, osl⟩ := by
  obtain ⟨oc, od, kV, doc, pm, an, cdv, ct, osl, _, lk, _⟩ := F.ex
  exact ⟨oc, od, osl, lk⟩
theorem Def.of {P : Program} {w : World} {K : PySem.W.Frag} {mg : Str → Option Value} {base : Heap} {T : XT} {x : Str} {st : Stmt} {N ps : List Str} {k : Nat} {eb : EvS} (D : TxtD K mg x st ps) (S : FnScope N ps (defScope st))
    (h : ∀ (f : Addr) (cdv : Value) (A : Around) (outer : List Env) (s : Shared) (H : Hp) (E : XK), Room k (A.deeper (envOfC x (defScope st) s.heap.objs.size f cdv)) →
      ∃ t, SB (cxOf (L2.CX P w) P w K mg base N x (defScope st) f cdv A outer s H E) K T (fun cls d _ H => E cls d H) (defBody st) t eb) : Def P w K mg base T (k + 1) x ps (runDef N.length eb) := by
  obtain ⟨f, fd, F, hm, hb⟩ := D.ex
  exact ⟨f, fd, def_ok F S fun cdv A outer s H E hr => by
    obtain ⟨t, z⟩ := h f cdv A outer s H E hr
    exact ⟨t, z.pe, z.good⟩, hm, F.kp, hb, Fun.look F⟩
theorem Def.imp {P : Program} {w : World} {K : PySem.W.Frag} {mg : Str → Option Value} {base : Heap} {T : XT} {k : Nat} {x : Str} {ps : List Str} {F G : Fn} (D : Def P w K mg base T k x ps F) (e : ∀ ds om, G ds om ≠ .no → F ds om = G ds om) : Def P w K mg base T k x ps G := by
  obtain ⟨f, fd, h1, h2⟩ := D.ex
  exact ⟨f, fd, fn_imp h1 e, h2⟩
section
variable {X : Cx} {K : PySem.W.Frag} {T : XT} {W : WX} {a b c e : Expr} {es : List Expr} {ta tb tc te : TE} {va vb vc ve : EvE} {t : TA} {l : EvA} {tt tu : TT} {et eu : EvT} {pos p p1 p2 : Pos} {x : Str}
/-! ### expressions -/
theorem s_v (i : Nat) (hN : X.N[i]? = some x := by rfl) (hv : Vis X.env.scope x := by first | exact Or.inl rfl | exact Or.inr (Or.inl rfl) | exact Or.inr (Or.inr rfl)) (hd : (x == ("__debug__" : Str)) = false := by decide)
    (hcd : (x == ("__classdict__" : Str)) = false := by decide) (hK : X.K = K := by rfl) : SE X K T W (.Name x pos) (tVar i) (eVar i) := by
  subst hK
  exact ⟨pe_var hN hv hd hcd, good_var⟩
/-- .. out of its slot -/
theorem s_own (i : Nat) (hN : X.N[i]? = some x := by rfl) (hv : Vis X.env.scope x := by first | exact Or.inl rfl | exact Or.inr (Or.inl rfl) | exact Or.inr (Or.inr rfl)) (hd : (x == ("__debug__" : Str)) = false := by decide)
    (hcd : (x == ("__classdict__" : Str)) = false := by decide) (hK : X.K = K := by rfl) : SE X K T W (.Name x pos) (tVar i) (eOwn i) := by
  subst hK
  exact ⟨pe_var hN hv hd hcd, good_own⟩
theorem s_int {i : Int} {j} (hK : X.K = K := by rfl) : SE X K T W (.Constant (.int i) j pos) (tC (.int i)) (eInt i) := by
  subst hK
  exact ⟨pe_int, good_int⟩
theorem s_str {y : Str} {j} (hK : X.K = K := by rfl) : SE X K T W (.Constant (.str y) j pos) (tC (.str y)) (eStr y) := by
  subst hK
  exact ⟨pe_str, good_str⟩
theorem s_bl {k : Bool} {j} (hK : X.K = K := by rfl) : SE X K T W (.Constant (.bool k) j pos) (tC (.bl k)) (eC (.bl k)) := by
  subst hK
  exact ⟨pe_bl, good_bl⟩
theorem s_non {j} (hK : X.K = K := by rfl) : SE X K T W (.Constant .none j pos) (tC .non) (eC .non) := by
  subst hK
  exact ⟨pe_non, good_non⟩
def tNeverE : TE := fun _ _ _ => False
/-- what is never come to -/
theorem s_no (hK : X.K = K := by rfl) : SE X K T W e tNeverE eNo := by
  subst hK
  exact ⟨⟨fun _ _ _ _ _ _ h => h.elim⟩, good_no⟩
theorem s_op {op : Operator} {r : R2} {f : Op2} (ho : OpR X (binaryOp op) r) (hg : OpG K r f) (ha : SE X K T W a ta va) (hb : SE X K T W b tb vb) (hK : X.K = K := by rfl) : SE X K T W (.BinOp a op b pos) (tOp r ta tb) (eOp f va vb) := by
  subst hK
  exact ⟨pe_op ho ha.pe hb.pe, good_op hg ha.good hb.good⟩
theorem s_add (ha : SE X K T W a ta va) (hb : SE X K T W b tb vb) (hK : X.K = K := by rfl) : SE X K T W (.BinOp a .Add b pos) (tOp rAddA ta tb) (eOp oAdd va vb) := by
  subst hK
  exact s_op op_addA opG_add ha hb
theorem s_sub (ha : SE X K T W a ta va) (hb : SE X K T W b tb vb) (hK : X.K = K := by rfl) : SE X K T W (.BinOp a .Sub b pos) (tOp (rI0 fun i j => .int (i - j)) ta tb) (eOp oSub va vb) := by
  subst hK
  exact s_op op_sub opG_sub ha hb
theorem s_mul (ha : SE X K T W a ta va) (hb : SE X K T W b tb vb) (hK : X.K = K := by rfl) : SE X K T W (.BinOp a .Mult b pos) (tOp rMulA ta tb) (eOp oMul va vb) := by
  subst hK
  exact s_op op_mulA opG_mul ha hb
theorem s_div (ha : SE X K T W a ta va) (hb : SE X K T W b tb vb) (hK : X.K = K := by rfl) : SE X K T W (.BinOp a .FloorDiv b pos) (tOp (rI CDivW fun i j => .int (i / j)) ta tb) (eOp oDiv va vb) := by
  subst hK
  exact s_op op_fdivW opG_div ha hb
theorem s_mod (ha : SE X K T W a ta va) (hb : SE X K T W b tb vb) (hK : X.K = K := by rfl) : SE X K T W (.BinOp a .Mod b pos) (tOp (rI (fun _ j => j ≠ 0) fun i j => .int (i.fmod j)) ta tb) (eOp oMod va vb) := by
  subst hK
  exact s_op op_modN opG_mod ha hb
theorem s_pow (ha : SE X K T W a ta va) (hb : SE X K T W b tb vb) (hK : X.K = K := by rfl) : SE X K T W (.BinOp a .Pow b pos) (tOp (rI CPowW fun i j => .int (i ^ j.toNat)) ta tb) (eOp oPow va vb) := by
  subst hK
  exact s_op op_powW opG_pow ha hb
theorem s_neg (ha : SE X K T W a ta va) (hK : X.K = K := by rfl) : SE X K T W (.UnaryOp .USub a pos) (tUn (rU fun i => .int (-i)) ta) (eOp1 oNeg va) := by
  subst hK
  exact ⟨pe_un un_neg ha.pe, good_un unG_neg ha.good⟩
/-- comparisons: the operator's rule, what it says -/
structure CmpS (X : Cx) (K : PySem.W.Frag) (op : CmpOp) (r : R2) (f : Op2) : Prop where
  o : OpR X (compareOp op) r
  g : OpG K r f
  m : ∀ b, behindInMarks op b = false
theorem c_eq (hu : X.A.units + 64 < cLine) (hK : X.K = K := by rfl) : CmpS X K .Eq (rEqD K) oEq := by
  subst hK
  exact ⟨op_eqD hu, opG_eq, fun b => nomark b⟩
theorem c_ne (hu : X.A.units + 64 < cLine) (hK : X.K = K := by rfl) : CmpS X K .NotEq (rNeD K) oNe := by
  subst hK
  exact ⟨op_neD hu, opG_ne, fun b => nomark b⟩
theorem c_lt  (hK : X.K = K := by rfl) : CmpS X K .Lt (rI0 fun i j => .bl (decide (i < j))) oLt := by
  subst hK
  exact ⟨op_lt, opG_cmp, fun b => nomark b⟩
theorem c_le  (hK : X.K = K := by rfl) : CmpS X K .LtE (rI0 fun i j => .bl (decide (i ≤ j))) oLe := by
  subst hK
  exact ⟨op_le, opG_cmp, fun b => nomark b⟩
theorem c_gt  (hK : X.K = K := by rfl) : CmpS X K .Gt (rI0 fun i j => .bl (decide (j < i))) oGt := by
  subst hK
  exact ⟨op_gt, opG_cmp, fun b => nomark b⟩
theorem c_ge  (hK : X.K = K := by rfl) : CmpS X K .GtE (rI0 fun i j => .bl (decide (j ≤ i))) oGe := by
  subst hK
  exact ⟨op_ge, opG_cmp, fun b => nomark b⟩
theorem s_cmp {op : CmpOp} {r : R2} {f : Op2} (h : CmpS X K op r f) (ha : SE X K T W a ta va) (hb : SE X K T W b tb vb) (hK : X.K = K := by rfl) : SE X K T W (.Compare a [op] [b] pos) (tOp r ta tb) (eOp f va vb) := by
  subst hK
  exact ⟨pe_cmpR h.o ha.pe hb.pe (h.m b), good_op h.g ha.good hb.good⟩
theorem st_cmp {op : CmpOp} {r : R2} {f : Op2} (h : CmpS X K op r f) (ha : SE X K T W a ta va) (hb : SE X K T W b tb vb) (hK : X.K = K := by rfl) : ST X K T W (.Compare a [op] [b] pos) (tTest (tOp r ta tb)) (tBl (eOp f va vb)) := by
  subst hK
  exact ⟨pt_cmpR h.o ha.pe hb.pe (h.m b), good_bltest (good_op h.g ha.good hb.good)⟩
theorem s_chain {op op' : CmpOp} {r r' : R2} {f f' : Op2} (h : CmpS X K op r f) (h' : CmpS X K op' r' f') (ha : SE X K T W a ta va) (hb : SE X K T W b tb vb) (hc : SE X K T W c tc vc) (hm : lastMarks [op, op'] [b, c] = false := by with_unfolding_all rfl) (hK : X.K = K := by rfl) :
    SE X K T W (.Compare a [op, op'] [b, c] pos) (tChain r r' ta tb tc) (eChain f f' va vb vc) := by
  subst hK
  exact ⟨pe_chain h.o h'.o ha.pe hb.pe hc.pe hm, good_chain h.g h'.g ha.good hb.good hc.good⟩
theorem st_chain {op op' : CmpOp} {r r' : R2} {f f' : Op2} (h : CmpS X K op r f) (h' : CmpS X K op' r' f') (ha : SE X K T W a ta va) (hb : SE X K T W b tb vb) (hc : SE X K T W c tc vc) (hm : lastMarks [op, op'] [b, c] = false := by with_unfolding_all rfl) (hK : X.K = K := by rfl) :
    ST X K T W (.Compare a [op, op'] [b, c] pos) (tTest (tChain r r' ta tb tc)) (tBl (eChain f f' va vb vc)) := by
  subst hK
  exact ⟨pt_chain h.o h'.o ha.pe hb.pe hc.pe hm, good_bltest (good_chain h.g h'.g ha.good hb.good hc.good)⟩
theorem s_isN {j pos'} (ha : SE X K T W a ta va) (hK : X.K = K := by rfl) : SE X K T W (.Compare a [.Is] [.Constant .none j pos'] pos) (tIsN ta) (eOp1 oIsN va) := by
  subst hK
  exact ⟨pe_cmp (pc_isN ha.pe) rfl, good_isN ha.good⟩
theorem s_notN {j pos'} (ha : SE X K T W a ta va) (hK : X.K = K := by rfl) : SE X K T W (.Compare a [.IsNot] [.Constant .none j pos'] pos) (tNotN ta) (eOp1 oNotN va) := by
  subst hK
  exact ⟨pe_cmp (pc_notN ha.pe) rfl, good_notN ha.good⟩
theorem st_isN {j pos'} (ha : SE X K T W a ta va) (hK : X.K = K := by rfl) : ST X K T W (.Compare a [.Is] [.Constant .none j pos'] pos) (tB (tIsN ta)) (tBl (eOp1 oIsN va)) := by
  subst hK
  exact ⟨pt_cmp (pc_isN ha.pe) rfl, good_bltest (good_isN ha.good)⟩
theorem st_notN {j pos'} (ha : SE X K T W a ta va) (hK : X.K = K := by rfl) : ST X K T W (.Compare a [.IsNot] [.Constant .none j pos'] pos) (tB (tNotN ta)) (tBl (eOp1 oNotN va)) := by
  subst hK
  exact ⟨pt_cmp (pc_notN ha.pe) rfl, good_bltest (good_notN ha.good)⟩
/-- a truth -/
theorem st_tru (ha : SE X K T W a ta va) (he : ∀ whole, isTrue a X.env whole = (do let v ← whole; standAt a.pos; holding [v] (truthy v)) := by intro _; rfl) (hK : X.K = K := by rfl) :
    ST X K T W a (fun σ H Q => ta σ H fun x H' => ∃ k, TruV K x H' k ∧ Q k H') (tTru va) := by
  subst hK
  exact ⟨pt_truth ha.pe he, good_tru ha.good⟩
theorem st_truV (i : Nat) (hN : X.N[i]? = some x := by rfl) (hv : Vis X.env.scope x := by first | exact Or.inl rfl | exact Or.inr (Or.inl rfl) | exact Or.inr (Or.inr rfl)) (hd : (x == ("__debug__" : Str)) = false := by decide)
    (hcd : (x == ("__classdict__" : Str)) = false := by decide) (hK : X.K = K := by rfl) : ST X K T W (.Name x pos) (fun σ H Q => tVar i σ H fun x H' => ∃ k, TruV K x H' k ∧ Q k H') (tTruV i) := by
  subst hK
  exact ⟨pt_truth (pe_var hN hv hd hcd) (fun _ => rfl), good_truV⟩
theorem sw_and1 (ha : ST X K T W a tt et) (hK : X.K = K := by rfl) : SW X K T W (.BoolOp .And [a] pos) tt et := by
  subst hK
  exact ⟨pw_and1 ha.pe, ha.good⟩
theorem sw_and (ha : ST X K T W a tt et) (hb : SW X K T W (.BoolOp .And (b :: es) pos) tu eu) (hK : X.K = K := by rfl) : SW X K T W (.BoolOp .And (a :: b :: es) pos) (L2.tAnd tt tu) (tAnd et eu) := by
  subst hK
  exact ⟨pw_and ha.pe hb.pe, good_tand ha.good hb.good⟩
theorem sw_or1 (ha : ST X K T W a tt et) (hK : X.K = K := by rfl) : SW X K T W (.BoolOp .Or [a] pos) tt et := by
  subst hK
  exact ⟨pw_or1 ha.pe, ha.good⟩
theorem sw_or (ha : ST X K T W a tt et) (hb : SW X K T W (.BoolOp .Or (b :: es) pos) tu eu) (hK : X.K = K := by rfl) : SW X K T W (.BoolOp .Or (a :: b :: es) pos) (L2.tOr tt tu) (tOr et eu) := by
  subst hK
  exact ⟨pw_or ha.pe hb.pe, good_tor ha.good hb.good⟩
theorem st_w (h : SW X K T W e tt et) (hK : X.K = K := by rfl) : ST X K T W e tt et := by
  subst hK
  exact ⟨h.pe.pt, h.good⟩
theorem st_not (ha : ST X K T W a tt et) (hK : X.K = K := by rfl) : ST X K T W (.UnaryOp .Not a pos) (L2.tNot tt) (tNot et) := by
  subst hK
  exact ⟨pt_not ha.pe, good_tnot ha.good⟩
theorem s_one {op} (h : SE X K T W a ta va) (hK : X.K = K := by rfl) : SE X K T W (.BoolOp op [a] pos) ta va := by
  subst hK
  exact ⟨pe_one h.pe, h.good⟩
theorem s_and (ha : SE X K T W a ta va) (hb : SE X K T W (.BoolOp .And (b :: es) pos) tb vb) (hK : X.K = K := by rfl) : SE X K T W (.BoolOp .And (a :: b :: es) pos) (tAndV ta tb) (eAnd va vb) := by
  subst hK
  exact ⟨pe_and ha.pe hb.pe, good_and ha.good hb.good⟩
theorem s_or (ha : SE X K T W a ta va) (hb : SE X K T W (.BoolOp .Or (b :: es) pos) tb vb) (hK : X.K = K := by rfl) : SE X K T W (.BoolOp .Or (a :: b :: es) pos) (tOrV ta tb) (eOr va vb) := by
  subst hK
  exact ⟨pe_or ha.pe hb.pe, good_or ha.good hb.good⟩
theorem s_not (ha : SE X K T W a ta va) (hK : X.K = K := by rfl) : SE X K T W (.UnaryOp .Not a pos) (tNotV ta) (eNot va) := by
  subst hK
  exact ⟨pe_not ha.pe, good_not ha.good⟩
theorem s_if (ht : ST X K T W c tt et) (ha : SE X K T W a ta va) (hb : SE X K T W b tb vb) (hK : X.K = K := by rfl) : SE X K T W (.IfExp c a b pos) (tIf tt ta tb) (eIf et va vb) := by
  subst hK
  exact ⟨pe_ifExp ht.pe ha.pe hb.pe, good_if ht.good ha.good hb.good⟩
/-! displays -/
theorem sa_nil (hK : X.K = K := by rfl) : SA X K T W [] tNil aNil := by
  subst hK
  exact ⟨pa_nil, good_nil⟩
theorem sa_cons (ha : SE X K T W a ta va) (hl : SA X K T W es t l) (hs : starEach (a :: es) X.env = (false, eval a X.env) :: starEach es X.env := by rfl) (hK : X.K = K := by rfl) : SA X K T W (a :: es) (tCons ta t) (aCons va l) := by
  subst hK
  exact ⟨pa_cons ha.pe hl.pe hs, good_cons ha.good hl.good⟩
theorem s_tup {k} (hl : SA X K T W es t l) (hK : X.K = K := by rfl) : SE X K T W (.Tuple es k pos) (tTup t) (eTup l) := by
  subst hK
  exact ⟨pe_tup hl.pe, good_tup hl.good⟩
theorem s_lst (hl : SA X K T W es t l) (hK : X.K = K := by rfl) : SE X K T W (.List es pos) (tLst t) (eLst l) := by
  subst hK
  exact ⟨pe_lst hl.pe, good_lst hl.good⟩
/-- a list that is a cell -/
theorem s_lstC (hl : SA X K T W es t l) (hK : X.K = K := by rfl) : SE X K T W (.List es pos) (tLst t) (eLstC l) := by
  subst hK
  exact ⟨pe_lst hl.pe, good_lstC hl.good⟩
theorem s_ix (ha : SE X K T W a ta va) (hb : SE X K T W b tb vb) (hs : PlainIx b := by exact fun _ _ => rfl) (hK : X.K = K := by rfl) : SE X K T W (.Subscript a b pos) (tOp (rIx K) ta tb) (eOp oIx va vb) := by
  subst hK
  exact ⟨pe_ix ix_seq ha.pe hb.pe hs, good_op opG_ix ha.good hb.good⟩
theorem s_dget (hu : X.A.units + 1 < cLine) (ha : SE X K T W a ta va) (hb : SE X K T W b tb vb) (hs : NoSl b := by exact fun _ _ => rfl) (hK : X.K = K := by rfl) : SE X K T W (.Subscript a b pos) (tDGet ta tb) (eDGet va vb) := by
  subst hK
  exact ⟨pe_dget hu ha.pe hb.pe hs, good_dget ha.good hb.good⟩
theorem sd_nil (hK : X.K = K := by rfl) : SD X K T W pos [] [] [] [] aNil := by
  subst hK
  exact ⟨pps_nil, good_pnil⟩
theorem sd_cons {y : Str} {j p} {keys : List (Option Expr)} {values : List Expr} {trs : List (TE × TE)} {ks : List Str} (ha : SE X K T W a ta va) (hr : SD X K T W pos keys values trs ks l) (hK : X.K = K := by rfl) :
    SD X K T W pos (some (.Constant (.str y) j p) :: keys) (a :: values) ((tC (.str y), ta) :: trs) (y :: ks) (aCons va l) := by
  subst hK
  exact ⟨pps_cons pe_str ha.pe hr.pe, good_pcons ha.good hr.good⟩
theorem s_disp {keys : List (Option Expr)} {values : List Expr} {trs : List (TE × TE)} {ks : List Str} (h : SD X K T W pos keys values trs ks l) (hall : keys.all (·.isSome) = true := by rfl) (hl : keys.length = values.length := by rfl) (h0 : keys ≠ [] := by exact fun z => nomatch z)
    (h15 : keys.length ≤ 15 := by decide) (hK : X.K = K := by rfl) : SE X K T W (.Dict keys values pos) (tDisp trs) (eDisp ks l) := by
  subst hK
  exact ⟨pe_disp h.pe hall hl h0 h15, good_disp h.good⟩
/-! calls -/
theorem s_call {k j : Nat} {ps : List Str} {F : Fn} (D : Def X.prog X.w K X.mg X.base T k x ps F) (hr : Room j X.A) (tk : Takes X W) (hn : Ar ps.length l) (hl : SA X K T W (e :: es) t l) (hk : k ≤ j := by decide) (hg : Gl X x := by rfl) (hdb : (x == ("__debug__" : Str)) = false := by decide)
    (he : starEach (e :: es) X.env = (false, eval e X.env) :: starEach es X.env := by rfl) (hpl : (backTo pos (starEach es X.env)).any (·.1) = false := by rfl) (hK : X.K = K := by rfl) :
    SE X K T W (.Call (.Name x p) (e :: es) [] pos) (tCallS (spD K T ps.length F) (WE W) t) (eCall F l) := by
  subst hK
  obtain ⟨f, fd, h1, h2, h3, h4, _⟩ := D.ex
  exact ⟨pe_callS h1 (hr.mono hk) hg h2 h3 (.all h4) (fun σ => passAt tk σ) hl.pe hdb he hpl, good_fn hn hl.good⟩
theorem s_b {id : String} {r : List V → Hp → VK → Prop} {f : OpA} (hc : CallR X (.builtin id) r) (hf : CallG K r f) (hv : bootBuiltins x = some (.builtin id)) (hm : X.mg x = none) (hl : SA X K T W (e :: es) t l) (hg : Gl X x := by rfl) (hn : x ≠ "__name__" := by decide)
    (hdb : (x == ("__debug__" : Str)) = false := by decide) (he : starEach (e :: es) X.env = (false, eval e X.env) :: starEach es X.env := by rfl) (hpl : (backTo pos (starEach es X.env)).any (·.1) = false := by rfl) (hK : X.K = K := by rfl) :
    SE X K T W (.Call (.Name x p) (e :: es) [] pos) (tCB r t) (eB f l) := by
  subst hK
  exact ⟨pe_callB hc hg hm hv hl.pe hn hdb he hpl, good_b hf hl.good⟩
theorem s_bt {id : String} {r : List V → Hp → VK → Prop} {f : OpA} (hc : CallR X (.type id) r) (hf : CallG K r f) (hv : bootBuiltins x = some (.type id)) (hm : X.mg x = none) (hl : SA X K T W (e :: es) t l) (hg : Gl X x := by rfl) (hn : x ≠ "__name__" := by decide)
    (hdb : (x == ("__debug__" : Str)) = false := by decide) (he : starEach (e :: es) X.env = (false, eval e X.env) :: starEach es X.env := by rfl) (hpl : (backTo pos (starEach es X.env)).any (·.1) = false := by rfl) (hK : X.K = K := by rfl) :
    SE X K T W (.Call (.Name x p) (e :: es) [] pos) (tCB r t) (eB f l) := by
  subst hK
  exact ⟨pe_callTy hc hg hm hv hl.pe hn hdb he hpl, good_b hf hl.good⟩
theorem b_len : bootBuiltins "len" = some (.builtin "len") := by decide +kernel
theorem b_abs : bootBuiltins "abs" = some (.builtin "abs") := by decide +kernel
theorem b_min : bootBuiltins "min" = some (.builtin "min") := by decide +kernel
theorem b_max : bootBuiltins "max" = some (.builtin "max") := by decide +kernel
theorem b_all : bootBuiltins "all" = some (.builtin "all") := by decide +kernel
theorem b_any : bootBuiltins "any" = some (.builtin "any") := by decide +kernel
theorem b_isi : bootBuiltins "isinstance" = some (.builtin "isinstance") := by decide +kernel
theorem b_int : bootBuiltins "int" = some (.type "int") := by decide +kernel
theorem b_list : bootBuiltins "list" = some (.type "list") := by decide +kernel
theorem b_tuple : bootBuiltins "tuple" = some (.type "tuple") := by decide +kernel
theorem b_ty (t : Ty) : bootBuiltins (Str.ofString t.nm) = some (.type t.nm) := by cases t <;> decide +kernel
section
variable (hm : X.mg x = none) (hl : SA X K T W (e :: es) t l)
end
theorem s_len (hm : X.mg "len" = none) (hl : SA X K T W [e] t l) (hg : Gl X "len" := by rfl) (he : starEach [e] X.env = (false, eval e X.env) :: starEach [] X.env := by rfl) (hK : X.K = K := by rfl) : SE X K T W (.Call (.Name "len" p) [e] [] pos) (tCB (rLenA K) t) (eB bLen l) := by
  subst hK
  exact s_b call_len callG_len b_len hm hl hg (by decide) (by decide) he rfl
theorem s_lenV (i : Nat) (hm : X.mg "len" = none) (hN : X.N[i]? = some x := by rfl) (hv : Vis X.env.scope x := by first | exact Or.inl rfl | exact Or.inr (Or.inl rfl) | exact Or.inr (Or.inr rfl)) (hd : (x == ("__debug__" : Str)) = false := by decide)
    (hcd : (x == ("__classdict__" : Str)) = false := by decide) (hg : Gl X "len" := by rfl) (hK : X.K = K := by rfl) : SE X K T W (.Call (.Name "len" p) [.Name x p1] [] pos) (tCB (rLenA K) (tCons (tVar i) tNil)) (eLenV i) := by
  subst hK
  exact ⟨pe_callB call_len hg hm b_len (pa_cons (pe_var hN hv hd hcd) pa_nil), good_lenV⟩
theorem s_abs (hm : X.mg "abs" = none) (hl : SA X K T W [e] t l) (hg : Gl X "abs" := by rfl) (he : starEach [e] X.env = (false, eval e X.env) :: starEach [] X.env := by rfl) (hK : X.K = K := by rfl) : SE X K T W (.Call (.Name "abs" p) [e] [] pos) (tCB rAbs t) (eB bAbs l) := by
  subst hK
  exact s_b call_abs callG_abs b_abs hm hl hg (by decide) (by decide) he rfl
theorem s_min (hc : X.calm = true) (hm : X.mg "min" = none) (hl : SA X K T W [a, b] t l) (hg : Gl X "min" := by rfl) (he : starEach [a, b] X.env = (false, eval a X.env) :: starEach [b] X.env := by rfl) (hpl : (backTo pos (starEach [b] X.env)).any (·.1) = false := by rfl) (hK : X.K = K := by rfl) : SE X K T W (.Call (.Name "min" p) [a, b] [] pos) (tCB rMin2 t) (eB bMin l) := by
  subst hK
  exact s_b (call_min2 hc) callG_min b_min hm hl hg (by decide) (by decide) he hpl
theorem s_max (hc : X.calm = true) (hm : X.mg "max" = none) (hl : SA X K T W [a, b] t l) (hg : Gl X "max" := by rfl) (he : starEach [a, b] X.env = (false, eval a X.env) :: starEach [b] X.env := by rfl) (hpl : (backTo pos (starEach [b] X.env)).any (·.1) = false := by rfl) (hK : X.K = K := by rfl) : SE X K T W (.Call (.Name "max" p) [a, b] [] pos) (tCB rMax2 t) (eB bMax l) := by
  subst hK
  exact s_b (call_max2 hc) callG_max b_max hm hl hg (by decide) (by decide) he hpl
theorem s_all (hc : X.calm = true) (hm : X.mg "all" = none) (hl : SA X K T W [e] t l) (hg : Gl X "all" := by rfl) (he : starEach [e] X.env = (false, eval e X.env) :: starEach [] X.env := by rfl) (hK : X.K = K := by rfl) : SE X K T W (.Call (.Name "all" p) [e] [] pos) (tCB (rAll K) t) (eB bAll l) := by
  subst hK
  exact s_b (cr_all hc) callG_all b_all hm hl hg (by decide) (by decide) he rfl
theorem s_any (hc : X.calm = true) (hm : X.mg "any" = none) (hl : SA X K T W [e] t l) (hg : Gl X "any" := by rfl) (he : starEach [e] X.env = (false, eval e X.env) :: starEach [] X.env := by rfl) (hK : X.K = K := by rfl) : SE X K T W (.Call (.Name "any" p) [e] [] pos) (tCB (rAny K) t) (eB bAny l) := by
  subst hK
  exact s_b (cr_any hc) callG_any b_any hm hl hg (by decide) (by decide) he rfl
theorem s_int1 (hm : X.mg "int" = none) (hl : SA X K T W [e] t l) (hg : Gl X "int" := by rfl) (he : starEach [e] X.env = (false, eval e X.env) :: starEach [] X.env := by rfl) (hK : X.K = K := by rfl) : SE X K T W (.Call (.Name "int" p) [e] [] pos) (tCB rInt1 t) (eB bInt l) := by
  subst hK
  exact s_bt call_int1 callG_int b_int hm hl hg (by decide) (by decide) he rfl
theorem s_list (hm : X.mg "list" = none) (hl : SA X K T W [e] t l) (hg : Gl X "list" := by rfl) (he : starEach [e] X.env = (false, eval e X.env) :: starEach [] X.env := by rfl) (hK : X.K = K := by rfl) : SE X K T W (.Call (.Name "list" p) [e] [] pos) (tCB (rListA K) t) (eB bList l) := by
  subst hK
  exact s_bt call_list_of callG_list b_list hm hl hg (by decide) (by decide) he rfl
theorem s_tuple (hm : X.mg "tuple" = none) (hl : SA X K T W [e] t l) (hg : Gl X "tuple" := by rfl) (he : starEach [e] X.env = (false, eval e X.env) :: starEach [] X.env := by rfl) (hK : X.K = K := by rfl) : SE X K T W (.Call (.Name "tuple" p) [e] [] pos) (tCB (rTupleA K) t) (eB bTuple l) := by
  subst hK
  exact s_bt call_tuple_of callG_tuple b_tuple hm hl hg (by decide) (by decide) he rfl
theorem s_isA (y : Ty) (hm : X.mg "isinstance" = none) (hy : X.mg (Str.ofString y.nm) = none) (ha : SE X K T W a ta va) (hs : starEach [a, .Name (Str.ofString y.nm) p2] X.env = (false, eval a X.env) :: starEach [.Name (Str.ofString y.nm) p2] X.env := by rfl) (hg : Gl X "isinstance" := by rfl) (hgy : Gl X (Str.ofString y.nm) := by rfl)
    (hny : Str.ofString y.nm ≠ "__name__" := by decide) (hdy : (Str.ofString y.nm == ("__debug__" : Str)) = false := by decide) (hK : X.K = K := by rfl) :
    SE X K T W (.Call (.Name "isinstance" p) [a, .Name (Str.ofString y.nm) p2] [] pos) (tCB (rIsi K) (tCons ta (tCons (tC (.ty y.nm)) tNil))) (eIsA va y) := by
  subst hK
  exact ⟨pe_callB call_isi hg hm b_isi (pa_cons ha.pe (pa_cons (pe_bltn hgy hy (b_ty y) rfl hny hdy) pa_nil) hs) (by decide) (by decide) hs rfl, good_isA ha.good⟩
/-! methods of lists -/
theorem s_popC {apos : Pos} (ha : SE X K T W a ta va) (hb : SE X K T W b tb vb) (hs : starEach [b] X.env = (false, eval b X.env) :: starEach [] X.env := by rfl) (hbase : attributeBase a "pop" X.env (eval a X.env) = eval a X.env := by rfl)
    (hfew : ((backTo pos (starEach [b] X.env)).all (fun x => !x.1) && (backToKw pos (keywordEach [] X.env)).all (fun x => x.1.isSome) && decide ([b].length + ([] : List Keyword).length + (if ([] : List Keyword).isEmpty then 0 else 1) < 30)) = true := by rfl)
    (hline : (apos.endLine == pos.line) = true := by rfl) (hK : X.K = K := by rfl) : SE X K T W (.Call (.Attribute a "pop" apos) [b] [] pos) (tBM K "list" rPopAt ta (tCons tb tNil)) (ePopC va vb) := by
  subst hK
  exact ⟨pe_bm PySem.F.plainAttrs_list PySem.F.slot_list_pop PySem.F.type_list_pop mt_popAt ha.pe (pa_cons hb.pe pa_nil hs) hbase hfew hline hs rfl, good_popC ha.good hb.good⟩
theorem s_popV {apos : Pos} (i : Nat) (hb : SE X K T W b tb vb) (hs : starEach [b] X.env = (false, eval b X.env) :: starEach [] X.env := by rfl) (hN : X.N[i]? = some x := by rfl) (hv : Vis X.env.scope x := by first | exact Or.inl rfl | exact Or.inr (Or.inl rfl) | exact Or.inr (Or.inr rfl))
    (hd : (x == ("__debug__" : Str)) = false := by decide) (hcd : (x == ("__classdict__" : Str)) = false := by decide) (hbase : attributeBase (.Name x p1) "pop" X.env (eval (.Name x p1) X.env) = eval (.Name x p1) X.env := by rfl)
    (hfew : ((backTo pos (starEach [b] X.env)).all (fun x => !x.1) && (backToKw pos (keywordEach [] X.env)).all (fun x => x.1.isSome) && decide ([b].length + ([] : List Keyword).length + (if ([] : List Keyword).isEmpty then 0 else 1) < 30)) = true := by rfl)
    (hline : (apos.endLine == pos.line) = true := by rfl) (hK : X.K = K := by rfl) : SE X K T W (.Call (.Attribute (.Name x p1) "pop" apos) [b] [] pos) (tBM K "list" rPopAt (tVar i) (tCons tb tNil)) (ePopV i vb) := by
  subst hK
  exact ⟨pe_bm PySem.F.plainAttrs_list PySem.F.slot_list_pop PySem.F.type_list_pop mt_popAt (pe_var hN hv hd hcd) (pa_cons hb.pe pa_nil hs) hbase hfew hline hs rfl, good_popV hb.good⟩
end
end Mini

set_option Elab.async false
set_option linter.all false
set_option maxRecDepth 100000
set_option maxHeartbeats 1000000
/-! PySE8: the rules as one writes them: walks, targets, comprehensions, statements. -/
namespace Mini
open PySem PySem.Spec PyProof.Rows L2
section
variable {X : Cx} {K : PySem.W.Frag} {T : XT} {W : WX} {a b c e tg iter : Expr} {es : List Expr} {ta tb tc te : TE} {va vb vc ve : EvE} {t : TA} {l : EvA} {tt tu : TT} {et eu : EvT} {pos p p1 p2 : Pos} {x y z : Str} {wi : TI} {ei : EvI} {g : TG} {eg : EvG} {vs ws : List Nat}
theorem si_seq (ha : SE X K T W a ta va) (hK : X.K = K := by rfl) : SI X K T W tg a (iList K ta) (iSeq va) := by
  subst hK
  exact ⟨pi_list ha.pe, good_iseq ha.good⟩
theorem si_tup (ha : SE X K T W a ta va) (hK : X.K = K := by rfl) : SI X K T W tg a (L2.iTup K ta) (iTup va) := by
  subst hK
  exact ⟨pi_tup ha.pe, good_ituple ha.good⟩
theorem si_range1 (hm : X.mg "range" = none) (hl : SA X K T W [a] t l) (hg : Gl X "range" := by rfl) (hs : starEach [a] X.env = [(false, eval a X.env)] := by rfl) (hK : X.K = K := by rfl) : SI X K T W tg (.Call (.Name "range" p) [a] [] pos) (iRng1 t) (iRange1 l) := by
  subst hK
  exact ⟨pi_range1 hg hm hl.pe hs, good_irange1 hl.good⟩
theorem si_range2 (hm : X.mg "range" = none) (hl : SA X K T W [a, b] t l) (hg : Gl X "range" := by rfl) (hs : starEach [a, b] X.env = [(false, eval a X.env), (false, eval b X.env)] := by rfl) (hs2 : starEach [b] X.env = [(false, eval b X.env)] := by rfl) (hK : X.K = K := by rfl) :
    SI X K T W tg (.Call (.Name "range" p) [a, b] [] pos) (iRng2 t) (iRange2 l) := by
  subst hK
  exact ⟨pi_range2 hg hm hl.pe hs hs2, good_irange2 hl.good⟩
theorem si_zip {k} (hm : X.mg "zip" = none) (hl : SA X K T W [a, b] t l) (hg : Gl X "zip" := by rfl) (hs : starEach [a, b] X.env = (false, eval a X.env) :: starEach [b] X.env := by rfl) (hpl : (backTo pos (starEach [b] X.env)).any (·.1) = false := by rfl) (hK : X.K = K := by rfl) :
    SI X K T W (.Tuple es k p1) (.Call (.Name "zip" p) [a, b] [] pos) (L2.iZip K t) (iZip l) := by
  subst hK
  exact ⟨pi_zip hg hm hl.pe hs hpl, good_izip hl.good⟩
/-- a list or a tuple, whichever it is -/
def iAnyT (K : PySem.W.Frag) (tl : TE) : TI := fun σ H R => iList K tl σ H R ∨ L2.iTup K tl σ H R
theorem pi_any {l : Expr} {tl : TE} (hl : PE X l tl) : PI X tg l (iAnyT X.K tl) :=
  ⟨fun pins s σ H R I h => h.elim ((pi_list hl).run pins s σ H R I) ((pi_tup hl).run pins s σ H R I)⟩
theorem good_iany {K : PySem.W.Frag} (ha : GoodE K T W ta va) : GoodI K T W (iAnyT K ta) (iAny va) := by
  intro g B ρ st σ H rel
  have h1 := good_iseq ha g B ρ st σ H rel
  have h2 := good_ituple ha g B ρ st σ H rel
  unfold iSeq at h1
  unfold iTup at h2
  unfold iAny
  cases e : va st with
  | no => trivial
  | ex x s1 =>
    rw [e] at h1
    exact h1.conv fun Q q => .inl q
  | ok v s1 =>
    rw [e] at h1 h2
    simp only [R.bind_ok] at h1 h2 ⊢
    cases ed : v.d with
    | lst xs =>
      rw [ed] at h1
      exact h1.conv fun Q q => .inl q
    | tup xs =>
      rw [ed] at h2
      exact h2.conv fun Q q => .inr q
    | _ => trivial
theorem si_any (ha : SE X K T W a ta va) (hK : X.K = K := by rfl) : SI X K T W tg a (iAnyT K ta) (iAny va) := by
  subst hK
  exact ⟨pi_any ha.pe, good_iany ha.good⟩
/-! targets -/
theorem sg_nm (i : Nat) (hN : X.N.Nodup) (hi : X.N[i]? = some x := by rfl) (hx : Loc X.env.scope x := by first | exact Or.inl rfl | exact Or.inr rfl) (hf : X.fn x = true ∨ X.env.scope.names.lookup x = some .local := by first | exact .inl rfl | exact .inr rfl) (hK : X.K = K := by rfl) : SG X K (.Name x pos) (gName i) (gNm i) [i] := by
  subst hK
  exact ⟨pg_name hN hi hx hf, good_gname⟩
theorem sgs_nil (hK : X.K = K := by rfl) : SGs X K [] gNil gNone [] 0 := by
  subst hK
  exact ⟨pgs_nil, good_gnil, lenG_nil⟩
theorem sgs_cons {u : TGs} {eu : EvGs} {n : Nat} (h1 : SG X K e g eg vs) (h2 : SGs X K es u eu ws n) (hs : (assignEach (e :: es) X.env).map (·.2) = assign e X.env :: (assignEach es X.env).map (·.2) := by rfl) (hK : X.K = K := by rfl) : SGs X K (e :: es) (gCons g u) (gMore eg eu) (vs ++ ws) (n + 1) := by
  subst hK
  exact ⟨pgs_cons h1.pe h2.pe hs, good_gcons h1.good h2.good, lenG_cons h2.len⟩
theorem sg_tup {u : TGs} {eu : EvGs} {n k : Nat} (hc : X.calm = true) (h : SGs X K es u eu vs n) (hn : (assignEach es X.env).length = n := by rfl) (hst : (assignEach es X.env).findIdx? (·.1) = none := by rfl) (hK : X.K = K := by rfl) : SG X K (.Tuple es k pos) (gTup K n u) (gTp eu) vs := by
  subst hK
  exact ⟨pg_tup hc h.pe hn hst, good_gtup h.len h.good⟩
/-! comprehensions -/
theorem sq_nil (hK : X.K = K := by rfl) : SQ X K T W [] L2.tYes tYes := by
  subst hK
  exact ⟨pts_nil, good_yes⟩
theorem sq_one (h : ST X K T W c tt et) (hK : X.K = K := by rfl) : SQ X K T W [c] tt et := by
  subst hK
  exact ⟨pts_one h.pe, h.good⟩
theorem s_comp {elt : Expr} {ifs : List Expr} {scope : Scope} {own : List (Str × Nat)} {vl : List Nat} (hc : X.calm = true) (hN : X.N.Nodup) (hi : SI X K T W tg iter wi ei) (ok : BlkOk X.N X.env.scope scope own)
    (hg : ∀ (s : Shared) (H : Hp) (C : Addr) (cl : List (Str × Addr)) (fp : List Addr), SG (X.blk s H scope (compEnvC scope cl C X.env) fp) K tg g eg vs) (ht : ∀ (s : Shared) (H : Hp) (C : Addr) (cl : List (Str × Addr)) (fp : List Addr), SQ (X.blk s H scope (compEnvC scope cl C X.env) fp) K T WF ifs tt et)
    (he : ∀ (s : Shared) (H : Hp) (C : Addr) (cl : List (Str × Addr)) (fp : List Addr), SE (X.blk s H scope (compEnvC scope cl C X.env) fp) K T WF elt te ve) (hvl : own.map (·.2) = vl := by rfl) (hw : ∀ j ∈ vs, j ∈ vl := by decide) (hs : ∀ x, foldedSetIterable iter X.env x = pure x := by intro _; rfl) (hK : X.K = K := by rfl) :
    SE X K T W (.ListComp elt [⟨tg, iter, ifs, 0⟩] scope pos) (tLc wi g tt te vl) (eComp ei eg et ve vl) := by
  subst hK
  exact ⟨hvl ▸ pe_lc hc hN hi.pe ok (fun s H C cl fp => (hg s H C cl fp).pe) (fun s H C cl fp => (ht s H C cl fp).pe) (fun s H C cl fp => (he s H C cl fp).pe) hs, good_comp hw hi.good (hg X.s_0 X.H_0 0 [] []).good (ht X.s_0 X.H_0 0 [] []).good (he X.s_0 X.H_0 0 [] []).good⟩
/-- name = [..] -/
theorem ss_comp {i : Nat} {py spos : Pos} {elt : Expr} {ifs : List Expr} {scope : Scope} {own : List (Str × Nat)} {vl : List Nat} (hc : X.calm = true) (hN : X.N.Nodup) (hi : SI X K T W tg iter wi ei) (ok : BlkOk X.N X.env.scope scope own)
    (hg : ∀ (s : Shared) (H : Hp) (C : Addr) (cl : List (Str × Addr)) (fp : List Addr), SG (X.blk s H scope (compEnvC scope cl C X.env) fp) K tg g eg vs) (ht : ∀ (s : Shared) (H : Hp) (C : Addr) (cl : List (Str × Addr)) (fp : List Addr), SQ (X.blk s H scope (compEnvC scope cl C X.env) fp) K T WF ifs tt et)
    (he : ∀ (s : Shared) (H : Hp) (C : Addr) (cl : List (Str × Addr)) (fp : List Addr), SE (X.blk s H scope (compEnvC scope cl C X.env) fp) K T WF elt te ve) (hvl : own.map (·.2) = vl := by rfl) (hw : ∀ j ∈ vs, j ∈ vl := by decide) (hs : ∀ x, foldedSetIterable iter X.env x = pure x := by intro _; rfl)
    (hy : X.N[i]? = some y := by rfl) (hyl : X.env.scope.names.lookup y = some .local := by rfl) (hsw : swapsWith (.ListComp elt [⟨tg, iter, ifs, 0⟩] scope pos) (some (.Name y py)) spos.line X.env = pure true := by exact sw_true rfl rfl rfl (by decide +kernel)) (hK : X.K = K := by rfl) :
    SS X K T W (.Assign [.Name y py] (.ListComp elt [⟨tg, iter, ifs, 0⟩] scope pos) spos) (tAsg (tLc wi g tt te vl) (gName i)) (sSet i (eComp ei eg et ve vl)) := by
  subst hK
  exact ⟨hvl ▸ ps_setLc hc hN hy hyl hsw hi.pe ok (fun s H C cl fp => (hg s H C cl fp).pe) (fun s H C cl fp => (ht s H C cl fp).pe) (fun s H C cl fp => (he s H C cl fp).pe) hs, good_set (good_comp hw hi.good (hg X.s_0 X.H_0 0 [] []).good (ht X.s_0 X.H_0 0 [] []).good (he X.s_0 X.H_0 0 [] []).good)⟩
/-! statements -/
variable {s1 : TS} {e1 : EvS} {s2 : TS} {e2 : EvS} {st : Stmt} {sts : List Stmt}
theorem sb_nil (hK : X.K = K := by rfl) : SB X K T W [] tNext sPass := by
  subst hK
  exact ⟨pss_nil, good_pass⟩
theorem sb_one (h : SS X K T W st s1 e1) (hK : X.K = K := by rfl) : SB X K T W [st] s1 e1 := by
  subst hK
  exact ⟨pss_one h.pe, h.good⟩
theorem sb_cons (h1 : SS X K T W st s1 e1) (h2 : SB X K T W sts s2 e2) (hK : X.K = K := by rfl) : SB X K T W (st :: sts) (tSeq s1 s2) (sSeq e1 e2) := by
  subst hK
  exact ⟨pss_cons h1.pe h2.pe, good_seq h1.good h2.good⟩
theorem ss_no (hK : X.K = K := by rfl) : SS X K T W st tNever sNo := by
  subst hK
  exact ⟨ps_never, good_sno⟩
theorem sb_no (hK : X.K = K := by rfl) : SB X K T W sts tNever sNo := by
  subst hK
  exact ⟨pss_never, good_sno⟩
theorem ss_set (i : Nat) (hN : X.N.Nodup) (he : SE X K T W e te ve) (hi : X.N[i]? = some x := by rfl) (hx : Loc X.env.scope x := by first | exact Or.inl rfl | exact Or.inr rfl) (hs : swapsWith e (some (.Name x p)) pos.line X.env = pure false := by rfl)
    (hf : X.fn x = true ∨ X.env.scope.names.lookup x = some .local := by first | exact .inl rfl | exact .inr rfl) (hK : X.K = K := by rfl) : SS X K T W (.Assign [.Name x p] e pos) (tAsg te (gName i)) (sSet i ve) := by
  subst hK
  exact ⟨ps_set hN hi hx he.pe hs hf, good_set he.good⟩
theorem ss_get (he : SE X K T W e te ve) (hg : SG X K tg g eg vs) (hs : swapsWithSole [tg] e pos.line X.env = pure false := by rfl) (hw : swappedStores [tg] e X.env = pure none := by rfl) (h1 : (assignEach [tg] X.env).map (·.2) = [assign tg X.env] := by rfl) (hK : X.K = K := by rfl) :
    SS X K T W (.Assign [tg] e pos) (tAsg te g) (sGet eg ve) := by
  subst hK
  exact ⟨ps_asg he.pe hg.pe hs hw h1, good_get hg.good he.good⟩
theorem ss_par2 {kt k2 : Nat} {px py pt pt2 : Pos} (i j : Nat) (hc : X.calm = true) (hN : X.N.Nodup) (ha : SE X K T W a ta va) (hb : SE X K T W b tb vb) (hi : X.N[i]? = some x := by rfl) (hj : X.N[j]? = some y := by rfl) (hij : i ≠ j := by decide)
    (hx : X.env.scope.names.lookup x = some .local := by rfl) (hy : X.env.scope.names.lookup y = some .local := by rfl) (hs1 : starEach [a, b] X.env = (false, eval a X.env) :: starEach [b] X.env := by rfl) (hs2 : starEach [b] X.env = (false, eval b X.env) :: starEach [] X.env := by rfl)
    (hw : swappedStores [.Tuple [.Name x px, .Name y py] kt pt] (.Tuple [a, b] k2 pt2) X.env = pure (some [x, y]) := by rfl) (hs : swapsWithSole [.Tuple [.Name x px, .Name y py] kt pt] (.Tuple [a, b] k2 pt2) pos.line X.env = pure false := by rfl) (hK : X.K = K := by rfl) :
    SS X K T W (.Assign [.Tuple [.Name x px, .Name y py] kt pt] (.Tuple [a, b] k2 pt2) pos) (tPar i j (tCons ta (tCons tb tNil))) (sPar [i, j] [va, vb]) := by
  subst hK
  exact ⟨ps_par hc hN hi hj hij hx hy (pa_cons ha.pe (pa_cons hb.pe pa_nil hs2) hs1) hw hs, good_par2 ha.good hb.good⟩
theorem ss_par3 {kt k2 : Nat} {px py pz pt pt2 : Pos} (i j k : Nat) (hc : X.calm = true) (hN : X.N.Nodup) (ha : SE X K T W a ta va) (hb : SE X K T W b tb vb) (hcc : SE X K T W c tc vc) (hi : X.N[i]? = some x := by rfl) (hj : X.N[j]? = some y := by rfl) (hk : X.N[k]? = some z := by rfl)
    (hij : i ≠ j := by decide) (hik : i ≠ k := by decide) (hjk : j ≠ k := by decide) (hx : X.env.scope.names.lookup x = some .local := by rfl) (hy : X.env.scope.names.lookup y = some .local := by rfl) (hz : X.env.scope.names.lookup z = some .local := by rfl)
    (hs1 : starEach [a, b, c] X.env = (false, eval a X.env) :: starEach [b, c] X.env := by rfl) (hs2 : starEach [b, c] X.env = (false, eval b X.env) :: starEach [c] X.env := by rfl) (hs3 : starEach [c] X.env = (false, eval c X.env) :: starEach [] X.env := by rfl)
    (hw : swappedStores [.Tuple [.Name x px, .Name y py, .Name z pz] kt pt] (.Tuple [a, b, c] k2 pt2) X.env = pure (some [x, y, z]) := by rfl) (hs : swapsWithSole [.Tuple [.Name x px, .Name y py, .Name z pz] kt pt] (.Tuple [a, b, c] k2 pt2) pos.line X.env = pure false := by rfl) (hK : X.K = K := by rfl) :
    SS X K T W (.Assign [.Tuple [.Name x px, .Name y py, .Name z pz] kt pt] (.Tuple [a, b, c] k2 pt2) pos) (tPar3 i j k (tCons ta (tCons tb (tCons tc tNil)))) (sPar [i, j, k] [va, vb, vc]) := by
  subst hK
  exact ⟨ps_par3 hc hN hi hj hk hij hik hjk hx hy hz (pa_cons ha.pe (pa_cons hb.pe (pa_cons hcc.pe pa_nil hs3) hs2) hs1) hw hs, good_par3 ha.good hb.good hcc.good⟩
theorem ss_ret (he : SE X K T W e te ve) (hK : X.K = K := by rfl) : SS X K T W (.Return (some e) pos) (tRet te) (sRet ve) := by
  subst hK
  exact ⟨ps_ret he.pe, good_ret he.good⟩
theorem ss_retN (hK : X.K = K := by rfl) : SS X K T W (.Return none pos) tRetN sRetN := by
  subst hK
  exact ⟨ps_retN, good_retN⟩
theorem ss_if {s0 : List Stmt} (hc : ST X K T W c tt et) (h1 : SB X K T W sts s1 e1) (h2 : SB X K T W s0 s2 e2) (hK : X.K = K := by rfl) : SS X K T W (.If c sts s0 pos) (tIfS tt s1 s2) (sIf et e1 e2) := by
  subst hK
  exact ⟨ps_if hc.pe h1.pe h2.pe, good_sif hc.good h1.good h2.good⟩
theorem ss_drop (he : SE X K T W e te ve) (hs : swapsWith e none pos.line X.env = pure false := by rfl) (hK : X.K = K := by rfl) : SS X K T W (.Expr e pos) (tDrop te) (sDrop ve) := by
  subst hK
  exact ⟨ps_expr he.pe hs, good_drop he.good⟩
theorem ss_break (hK : X.K = K := by rfl) : SS X K T W (.Break pos) tBreak sBreak := by
  subst hK
  exact ⟨ps_break, good_break⟩
theorem ss_cont (hK : X.K = K := by rfl) : SS X K T W (.Continue pos) tCont sCont := by
  subst hK
  exact ⟨ps_continue, good_cont⟩
theorem ss_pass (hK : X.K = K := by rfl) : SS X K T W (.Pass pos) tNext sPass := by
  subst hK
  exact ⟨ps_pass, good_pass⟩
theorem ss_app {apos cpos : Pos} (i : Nat) (hb : SE X K T W b tb vb) (hs : starEach [b] X.env = (false, eval b X.env) :: starEach [] X.env := by rfl) (hN : X.N[i]? = some x := by rfl) (hv : Vis X.env.scope x := by first | exact Or.inl rfl | exact Or.inr (Or.inl rfl) | exact Or.inr (Or.inr rfl))
    (hd : (x == ("__debug__" : Str)) = false := by decide) (hcd : (x == ("__classdict__" : Str)) = false := by decide) (hbase : attributeBase (.Name x p1) "append" X.env (eval (.Name x p1) X.env) = eval (.Name x p1) X.env := by rfl)
    (hfew : ((backTo cpos (starEach [b] X.env)).all (fun x => !x.1) && (backToKw cpos (keywordEach [] X.env)).all (fun x => x.1.isSome) && decide ([b].length + ([] : List Keyword).length + (if ([] : List Keyword).isEmpty then 0 else 1) < 30)) = true := by rfl)
    (hline : (apos.endLine == cpos.line) = true := by rfl) (hsw : swapsWith (.Call (.Attribute (.Name x p1) "append" apos) [b] [] cpos) none pos.line X.env = pure false := by rfl) (hK : X.K = K := by rfl) :
    SS X K T W (.Expr (.Call (.Attribute (.Name x p1) "append" apos) [b] [] cpos) pos) (tDrop (tBM K "list" rAppend (tVar i) (tCons tb tNil))) (sApp i vb) := by
  subst hK
  exact ⟨ps_expr (pe_bm PySem.F.plainAttrs_list PySem.F.slot_list_append PySem.F.type_list_append mt_append (pe_var hN hv hd hcd) (pa_cons hb.pe pa_nil hs) hbase hfew hline hs rfl) hsw, good_app hb.good⟩
theorem ss_appC {apos cpos : Pos} (ha : SE X K T W a ta va) (hb : SE X K T W b tb vb) (hs : starEach [b] X.env = (false, eval b X.env) :: starEach [] X.env := by rfl) (hbase : attributeBase a "append" X.env (eval a X.env) = eval a X.env := by rfl)
    (hfew : ((backTo cpos (starEach [b] X.env)).all (fun x => !x.1) && (backToKw cpos (keywordEach [] X.env)).all (fun x => x.1.isSome) && decide ([b].length + ([] : List Keyword).length + (if ([] : List Keyword).isEmpty then 0 else 1) < 30)) = true := by rfl)
    (hline : (apos.endLine == cpos.line) = true := by rfl) (hsw : swapsWith (.Call (.Attribute a "append" apos) [b] [] cpos) none pos.line X.env = pure false := by rfl) (hK : X.K = K := by rfl) :
    SS X K T W (.Expr (.Call (.Attribute a "append" apos) [b] [] cpos) pos) (tDrop (tBM K "list" rAppend ta (tCons tb tNil))) (sAppC va vb) := by
  subst hK
  exact ⟨ps_expr (pe_bm PySem.F.plainAttrs_list PySem.F.slot_list_append PySem.F.type_list_append mt_append ha.pe (pa_cons hb.pe pa_nil hs) hbase hfew hline hs rfl) hsw, good_appC ha.good hb.good⟩
theorem ss_dput (hu : X.A.units + 1 < cLine) (ha : SE X K T W a ta va) (hb : SE X K T W b tb vb) (hc : SE X K T W c tc vc) (hs : swapsWith c (some (.Subscript a b p)) pos.line X.env = pure false := by rfl) (hK : X.K = K := by rfl) : SS X K T W (.Assign [.Subscript a b p] c pos) (L2.sDPut ta tb tc) (sDPut va vb vc) := by
  subst hK
  exact ⟨ps_dput hu ha.pe hb.pe hc.pe hs, good_dput ha.good hb.good hc.good⟩
theorem ss_for (hp : PassesOwn (model X.prog X.w) X.A X.env X.xe) (hc : X.calm = true) (hi : SI X K T W tg iter wi ei) (hg : SG X K tg g eg vs) (hb : SB X K T W sts s1 e1) (hs : ∀ x, foldedSetIterable iter X.env x = pure x := by intro _; rfl) (hK : X.K = K := by rfl) : SS X K T W (.For tg iter sts [] pos) (tFor wi g s1) (sFor ei eg e1) := by
  subst hK
  exact ⟨ps_for hp hc hi.pe hg.pe hb.pe hs, good_for hi.good hg.good hb.good⟩
theorem ss_while (n : Nat) (hp : PassesOwn (model X.prog X.w) X.A X.env X.xe) (hc : ST X K T W c tt et) (hb : SB X K T W sts s1 e1) (hK : X.K = K := by rfl) : SS X K T W (.While c sts [] pos) (tWhile tt s1) (sWhile n et e1) := by
  subst hK
  exact ⟨ps_while hp hc.pe hb.pe, good_while hc.good hb.good⟩
end
end Mini

set_option Elab.async false
set_option linter.all false
set_option maxRecDepth 100000
set_option maxHeartbeats 1000000
/-! PySE9: the end of a law. -/
namespace Mini
open PySem PySem.Spec PyProof.Rows L2
theorem TxtD.mk' {K : PySem.W.Frag} {h : Heap} {mg : Str → Option Value} (X : K.In h) (G : h.Ns mainGlobals mg) {x : Str} {st : Stmt} {ps : List Str} {f : Addr} {od an : Option Addr} {sl : Array (Option Value)} {oc kV dc pm cd ct : Value}
    (a : PySem.W.nsIn K mainGlobals x = some (some (.ref f))) (l : K.lookup f = some ⟨oc, od, .func (PySem.W.fnOf x x (defArgs st) (defBody st) (defScope st) .none kV dc pm an cd ct), sl⟩) (c : PySem.W.codeIn K cd x = true) (k : PySem.W.keepIn K (.ref f) = true)
    (hb : ∀ (kV doc pm : Value) (an : Option Addr) (cdv ct : Value) (us : List Value), us.length = ps.length → bindArgs (PySem.W.fnOf x x (defArgs st) (defBody st) (defScope st) .none kV doc pm an cdv ct) ⟨us, []⟩ = pure (ps.zip us)) : TxtD K mg x st ps :=
  ⟨f, _, fun_mk (st := st) l c k, PySem.W.mg_of X G a, hb kV dc pm an cd ct⟩
theorem noCX {P : Program} {w : World} {H : Hp} {s : Shared} {e : Value} {s' : Shared} (h : L2.CX P w [] H s (fun _ _ _ => False) e s') : False := by
  obtain ⟨_, _, _, _, _, _, _, _, _, _, _, _, z⟩ := h
  exact z
theorem only_no {H : Hp} (h : Only H) (b : Addr) (ps : Array Value) (e : H b = some (.tbl ps)) : False := by
  rcases h b with z | ⟨o, xs, z⟩
  · rw [z] at e; cases e
  · rw [z] at e; cases e
/-- the script alone -/
theorem script_sp {K : PySem.W.Frag} {T : XT} {F : Fn} {H : Hp} {a : Addr} {ns : List Int} (hO : Only H) (hS : SqL K H a (ns.map V.int)) {om : List Cell} (hF : F [.scr ns] [] = .ok (.sh (.bl true)) om) : spD K T 1 F [.ref a] H (fun v _ => v = .bl true) (fun _ _ _ => False) := by
  refine ⟨rfl, H, [], [.scr ns], [], ⟨rfl, Sub.refl _, hide_sub (ρ := []) (H := H), fun a ha => .inl ha, List.nodup_nil, rfl, fun n c b h1 => by simp at h1, fun b hb => by simp at hb, fun i v e => by simp at e, fun i ds p e _ => by simp at e, fun i j ds es p e _ _ _ => by simp at e, Sub.refl _, fun b ps e => only_no hO b ps e, hide_tbl (ρ := []) (H := H)⟩, .cons (.scr hS) .nil, ?_⟩
  rw [hF]
  intro B' ρ' x H' m r o
  have o : Rep K B' ρ' x (.bl true) := o
  cases o
  rfl
/-- the law's own def, for the end -/
theorem law_F {P : World → Program} {w : World} {K : PySem.W.Frag} {mg : Str → Option Value} {fa : Addr} {F : Fn} {k : Nat} {st : Stmt} {x y : Str} {T : XT} (hfa : mg x = some (.ref fa)) (D : TxtD K mg x st [y])
    (hD : ∀ base : Heap, Def (P w) w K mg base T k x [y] F) :
    ∃ fd : FuncData, (∀ (s : Shared) (u : Value), BindsTo s fd ⟨[u], []⟩ [(y, u)]) ∧ ∀ base : Heap, K.In base → base.Ns mainGlobals mg → FnOk (P w) w K mg base (L2.CX (P w) w) k fa fd [y] (spD K T 1 F) := by
  obtain ⟨f, fd, Fn, hm, hb⟩ := D.ex
  rw [hfa] at hm
  cases hm
  refine ⟨fd, fun s u => .of_eq (hb [u] rfl), fun base _ _ => ?_⟩
  obtain ⟨f', fd', h1, h2, h3, h4, oc, od, osl, h5⟩ := (hD base).ex
  rw [hfa] at h2
  cases h2
  obtain ⟨oc2, od2, osl2, h6⟩ := Fun.look Fn
  rw [h5] at h6
  cases h6
  exact h1
end Mini

set_option Elab.async false
set_option linter.all false
set_option maxRecDepth 100000
set_option maxHeartbeats 1000000
/-! PyX1: a def that is handed the exception that is handled: its promise may speak of the exception's object. -/
namespace Mini
open PySem PySem.Spec PyProof.Rows L2
/-- the context of a body that runs while p's exception is handled -/
abbrev hotCx (P : Program) (w : World) (K : PySem.W.Frag) (mg : Str → Option Value) (base : Heap) (N : List Str) (qual : Str) (scope : Scope) (f : Addr) (cd : Value) (A : Around) (outer : List Env) (s : Shared) (H : Hp) (p : Addr × Obj) : Cx :=
  (cxOf C8.CX0 P w K mg base N qual scope f cd A outer s H C8.E0).suite p.1 [p]
/-- its promise: sp is told the exception's object; it lets nothing out -/
structure FnP (P : Program) (w : World) (K : PySem.W.Frag) (mg : Str → Option Value) (base : Heap) (k : Nat) (f : Addr) (fd : FuncData) (ps : List Str) (sp : Addr × Obj → List V → Hp → VK → Prop) : Prop where
  len : ∀ p vs H Q, sp p vs H Q → vs.length = ps.length
  run : ∀ (A : Around) (outer : List Env) (s : Shared) (H : Hp) (args : Args) (us : List Value) (vs : List V) (Q : VK) (p : Addr × Obj), L2H.RoomH k A → A.handled = some (.ref p.1) → L2H.PinOk outer H s p →
    Env0 P w K mg base A outer s H → BindsTo s fd args (ps.zip us) → Vals vs us → sp p vs H Q → codeAny (model P w) A (.call (.ref f) args) (CR C8.CX0 outer P w H s Q C8.E0) s
theorem mark_same {A : Around} {v : Value} (h : A.handled = some v) (e : Env) : (A.deeper e).mark (some v) = A.deeper e := by
  obtain ⟨hd, d, fr, g, u⟩ := A
  cases h
  rfl
theorem inv_hot {P : Program} {w : World} {K : PySem.W.Frag} {mg : Str → Option Value} {base : Heap} {N : List Str} {qual : Str} {scope : Scope} {f : Addr} {cd : Value} {A : Around} {outer : List Env} {s s1 : Shared} {H : Hp} {p : Addr × Obj} {σ : L2.St} {H' : Hp}
    (I : Inv (L2H.cxH C8.CX0 P w K mg base N qual scope f cd A outer s H C8.E0 p) [] σ H' s1) : Inv (hotCx P w K mg base N qual scope f cd A outer s H p) [] σ H' s1 :=
  ⟨⟨I.ok.mod, I.ok.kind, I.ok.glob, I.ok.blt, I.ok.above, I.ok.inj, I.ok.has, I.ok.cab, (fun z => absurd (show false = true from z) Bool.false_ne_true), I.ok.frames, I.ok.stk, I.ok.exf, I.ok.bs, I.ok.bsz, I.ok.noex, I.ok.exfs, I.ok.funs, I.ok.frf⟩,
    I.os, I.bare, I.base, I.loc, I.cell, I.free, I.freeC, I.pin, I.hok, I.len⟩
/-- by its body -/
theorem FnP.of {P : Program} {w : World} {K : PySem.W.Frag} {mg : Str → Option Value} {base : Heap} {k : Nat} {f : Addr} {x qual : Str} {st : Stmt} {fd : FuncData} {N ps : List Str} {sp : Addr × Obj → List V → Hp → VK → Prop}
    (F : Fun K x qual st f fd) (S : FnScope N ps (defScope st)) (len : ∀ p vs H Q, sp p vs H Q → vs.length = ps.length)
    (hbody : ∀ (cdv : Value) (A : Around) (outer : List Env) (s : Shared) (H : Hp) (vs : List V) (Q : VK) (p : Addr × Obj), sp p vs H Q →
      ∃ t, PSs (hotCx P w K mg base N qual (defScope st) f cdv A outer s H p) (defBody st) t ∧ t { nx := fun _ H' => Q .non H', rt := Q } (L2.start N vs) H) :
    FnP P w K mg base (k + 1) f fd ps sp := by
  obtain ⟨oc, od, kV, doc, pm, an, cdv, ct, osl, rfl, lk, hcd⟩ := F.ex
  constructor
  · exact len
  intro A outer s H args us vs Q p room hh pin e0 bd vals ask
  have inK : K.In s.heap := e0.mod.kin.keeps fun b o e => (e0.bs b o e).1
  have kinds : ∀ y ∈ ps.zip us, (defScope st).names.lookup y.1 = some .local ∨ ((defScope st).names.lookup y.1 = some .cell ∧ ((cellsFrom (s.heap.objs.size + 1) (defScope st).names []).lookup y.1).isSome = true) := by
    intro y hy
    rcases S.par y.1 (List.of_mem_zip (a := y.1) (b := y.2) hy).1 with q | q
    · exact Or.inl q
    · exact Or.inr ⟨q, PySem.W.cellsFrom_some _ _ _ (Or.inl q)⟩
  refine codeAny_call_function room.depth (inK _ _ lk) rfl S.co S.gen rfl (PySem.W.codeRec_of inK hcd) (bd _ _ _ _ (wpAny_newFunctionEnv_cells S.kind kinds fun env he s1 x => ?_))
  subst he
  have lim : s.heap.NoLimit := e0.mod.nolimit.keeps fun b o e => (e0.bs b o e).1
  refine ⟨lim.keeps x.toInCall.keep, codeAny_func ?_⟩
  obtain ⟨t, walk, goal⟩ := hbody cdv A outer s H vs Q p ask
  have I := inv_hot (L2H.inv_startH (CX := C8.CX0) (E := C8.E0) S pin e0 (len _ _ _ _ ask) vals x)
  have ran := walk.run [] s1 _ H _ I goal
  have eA : (hotCx P w K mg base N qual (defScope st) f cdv A outer s H p).A = A.deeper (envOfC qual (defScope st) s.heap.objs.size f cdv) := mark_same hh _
  rw [eA] at ran
  refine wpAny_mono ran (fun fl s' done => ?_) fun e s' z => z.elim
  cases fl with
  | brk => exact (done.elim fun _ q => q.elim fun _ q => q.2).elim
  | cont => exact (done.elim fun _ q => q.elim fun _ q => q.2).elim
  | next => exact done.elim fun _ q => q.elim fun H' q => ⟨V.non, H', q.1.os, q.1.bare, q.1.base, q.1.hok, rfl, q.2⟩
  | ret u => exact done.elim fun v q => q.elim fun _ q => q.elim fun H' q => ⟨v, H', q.1.os, q.1.bare, q.1.base, q.1.hok, q.2.1, q.2.2⟩
section
variable {X : Cx} {a D : Addr} {oe : Obj} {pn : List (Addr × Obj)} {d : Option Addr}
/-- isinstance of the exception at a, of class D, whose dict is d -/
def rIsD (K : PySem.W.Frag) (D a : Addr) (d : Option Addr) : List V → Hp → VK → Prop := fun xs H Q =>
  ∃ (C : Addr) (b : Bool), xs = [.ref a, .ref C] ∧ PySem.W.kitOne K (.ref D) (.ref C) = some b ∧ (∀ dd, d = some dd → ∃ fs, H dd = some (.xd fs)) ∧ Q (.bl b) H
theorem inst_at {pins : List (Addr × Obj)} {σ : L2.St} {H : Hp} {s : Shared} (I : Inv (X.suite a ((a, oe) :: pn)) pins σ H s) (hz : Zc (.ref D) d oe) (hf : ∃ vs, oe.data = .fields vs) (hd : ∀ dd, d = some dd → ∃ fs, H dd = some (.xd fs)) :
    ∃ od, PySem.W.InstAt s.heap a oe D od := by
  have here := (I.pin (a, oe) (List.mem_append_left _ List.mem_cons_self)).1
  obtain ⟨vs, hv⟩ := hf
  have nc : PySem.W.notCls oe := by unfold PySem.W.notCls; rw [hv] <;> rfl
  cases d with
  | none => exact ⟨none, here, hz.1, nc, by rw [hz.2]; exact True.intro⟩
  | some dd =>
    obtain ⟨fs, hfs⟩ := hd dd rfl
    obtain ⟨mA, hn, _⟩ := (I.hok dd _ hfs : ObjOk _ _ _ _ _ (.xd fs))
    obtain ⟨od, ho, _⟩ := lookIn_ns hn
    exact ⟨some od, here, hz.1, nc, by rw [hz.2]; exact ho⟩
theorem call_isD (C : L2.ExcC X.K D) (hcl : (PySem.W.clsIn X.K D).isSome = true) (hz : Zc (.ref D) d oe) (hf : ∃ vs, oe.data = .fields vs) : CallR (X.suite a ((a, oe) :: pn)) (.builtin "isinstance") (rIsD X.K D a d) := by
  intro pins s σ H xs us Q I r h
  obtain ⟨c, b, rfl, hk, hd, q⟩ := h
  match us, r with
  | [u, t], .cons ru (.cons rt .nil) =>
    obtain rfl : u = Value.ref a := ru
    obtain rfl : t = Value.ref c := rt
    obtain ⟨od, J⟩ := inst_at I hz hf hd
    exact PySem.W.kia_one (PySem.W.kitx_exc hcl C.hg C.hk C.hs C.ha C.hn C.ht C.hm) I.kIn J hk (fun z => nomatch z) fun tk => ⟨.bl b, H, I.kept (t' := tk) fun _ _ z => z, rfl, q⟩
/-- what a body that tells of the exception at a gives -/
def Faults (X : Cx) (i : Nat) (a : Addr) (body : List Stmt) (G : Hp → VK → Prop) : Prop :=
  ∃ t, PSs X body t ∧ ∀ (σ : L2.St) (H : Hp) (Dn : Ends), σ[i]? = some (some (.ref a)) → G H Dn.rt → t Dn σ H
variable {i : Nat} {n : Str} {cs s : Str} {p1 p2 p3 p4 p5 p6 p7 : Pos}
theorem faults_ret0 {j k : Nat} : Faults X i a [.Return (some (.Tuple [.Constant (.str s) j p1] k p2)) p3] (fun H Q => ∀ p, H p = none → Q (.ref p) (upd H p (.tup [.str s]))) := by
  refine ⟨_, pss_one (ps_ret (pe_tup (pa_cons pe_str pa_nil))), fun σ H Dn _ g => ?_⟩
  exact ⟨by rw [sizeLine_eq]; show 1 ≤ _; decide, g⟩
/-- e.f in the tuple -/
theorem faults_ret1 {f : Str} {j k : Nat} (hN : X.N[i]? = some n) (hv : Vis X.env.scope n) (T : XfC X.K D) (hno : PySem.W.findIn X.K (.ref D) f = some none) (hz : Zc (.ref D) d oe) (hf : ∃ vs, oe.data = .fields vs)
    (hd : (n == ("__debug__" : Str)) = false := by decide) (hcd : (n == ("__classdict__" : Str)) = false := by decide)
    (hb : attributeBase (.Name n p4) f X.env (eval (.Name n p4) X.env) = eval (.Name n p4) X.env := by rfl) :
    Faults (X.suite a ((a, oe) :: pn)) i a [.Return (some (.Tuple [.Constant (.str s) j p1, .Attribute (.Name n p4) f p5] k p2)) p3]
      (fun H Q => ∃ (dd : Addr) (fs : List (Str × V)) (v : V), d = some dd ∧ H dd = some (.xd fs) ∧ fs.lookup f = some v ∧ ∀ p, H p = none → Q (.ref p) (upd H p (.tup [.str s, v]))) := by
  refine ⟨_, pss_one (ps_ret (pe_tup (pa_cons pe_str (pa_cons (pe_xf T hno hz hf (pe_var hN hv hd hcd) hb) pa_nil)))), fun σ H Dn hs g => ?_⟩
  obtain ⟨dd, fs, v, e1, e2, e3, q⟩ := g
  exact ⟨.ref a, hs, rfl, rfl, dd, fs, v, e1, e2, e3, by rw [sizeLine_eq]; show 2 ≤ _; decide, q⟩
theorem isi_b : bootBuiltins "isinstance" = some (.builtin "isinstance") := by decide +kernel
/-- if isinstance(e, C): .. -/
theorem faults_if {C : Addr} {b : Bool} {th rest : List Stmt} {G1 G2 : Hp → VK → Prop} (hN : X.N[i]? = some n) (hv : Vis X.env.scope n) (Cd : L2.ExcC X.K D) (hcl : (PySem.W.clsIn X.K D).isSome = true) (hz : Zc (.ref D) d oe) (hf : ∃ vs, oe.data = .fields vs)
    (hg : Gl X "isinstance") (hm : X.mg "isinstance" = none) (hgc : Gl X cs) (hmc : X.mg cs = some (.ref C)) (hk : PySem.W.kitOne X.K (.ref D) (.ref C) = some b)
    (h1 : Faults (X.suite a ((a, oe) :: pn)) i a th G1) (h2 : Faults (X.suite a ((a, oe) :: pn)) i a rest G2)
    (hs1 : starEach [.Name n p4, .Name cs p5] X.env = (false, eval (.Name n p4) X.env) :: starEach [.Name cs p5] X.env := by rfl)
    (hd : (n == ("__debug__" : Str)) = false := by decide) (hcd : (n == ("__classdict__" : Str)) = false := by decide) (hdc : (cs == ("__debug__" : Str)) = false := by decide) :
    Faults (X.suite a ((a, oe) :: pn)) i a (.If (.Call (.Name "isinstance" p1) [.Name n p4, .Name cs p5] [] p2) th [] p3 :: rest)
      (fun H Q => (∀ dd, d = some dd → ∃ fs, H dd = some (.xd fs)) ∧ if b = true then G1 H Q else G2 H Q) := by
  obtain ⟨t1, w1, g1⟩ := h1
  obtain ⟨t2, w2, g2⟩ := h2
  have pe := pe_callB (X := X.suite a ((a, oe) :: pn)) (pos := p2) (p := p1) (call_isD (a := a) (pn := pn) Cd hcl hz hf) hg hm isi_b (pa_cons (pe_var (pos := p4) hN hv hd hcd) (pa_cons (pe_glob (pos := p5) (v := .ref C) hgc hmc rfl hdc) pa_nil) hs1)
  refine ⟨_, pss_cons (ps_if (pt_truth pe fun _ => rfl) w1 pss_nil) w2, fun σ H Dn hs g => ?_⟩
  refine ⟨.ref a, hs, C, b, rfl, hk, g.1, b, rfl, ?_⟩
  have g := g.2
  cases b with
  | true => exact g1 σ H _ hs g
  | false => exact g2 σ H _ hs g
end
end Mini

set_option Elab.async false
set_option linter.all false
set_option maxRecDepth 100000
set_option maxHeartbeats 1000000
/-! PyX2: such a def called in an except suite; the own errors; raise. -/
namespace Mini
open PySem PySem.Spec PyProof.Rows L2
section
variable {X : Cx} {a f : Addr} {oe : Obj} {pn : List (Addr × Obj)} {k i : Nat} {fd : FuncData} {x n y : Str} {sp : Addr × Obj → List V → Hp → VK → Prop} {p q pos : Pos}
theorem pe_callP (F : FnP X.prog X.w X.K X.mg X.base k f fd [y] sp) (hr : L2H.RoomH k X.A) (hg : Gl X x) (hm : X.mg x = some (.ref f)) (hk : PySem.W.keepIn X.K (.ref f) = true) (hb : L2.Binds X.K fd [y] []) (hN : X.N[i]? = some n) (hv : Vis X.env.scope n)
    (hdb : (x == ("__debug__" : Str)) = false := by decide) (hd : (n == ("__debug__" : Str)) = false := by decide) (hcd : (n == ("__classdict__" : Str)) = false := by decide) :
    PE (X.suite a ((a, oe) :: pn)) (.Call (.Name x q) [.Name n p] [] pos) (fun σ H Q => σ[i]? = some (some (.ref a)) ∧ sp (a, oe) [.ref a] H Q) := by
  refine ⟨fun pins s σ H Q I h => ?_⟩
  obtain ⟨hs, ask⟩ := h
  have arg : PA (X.suite a ((a, oe) :: pn)) [.Name n p] (tCons (tVar i) tNil) := pa_cons (pe_var hN hv hd hcd) pa_nil
  have given := arg.run pos pins s σ H (fun vs H1 => vs = [V.ref a] ∧ H1 = H) I ⟨.ref a, hs, rfl, rfl⟩
  refine wpAny_Call_Name_kw (ld_glob I hg hm (PySem.W.callWith_K (h₀ := X.base) I.ok.mod.kin hk (thn given fun us s1 got => ?_) (by rfl) (by rfl)) hdb)
  obtain ⟨vs, H1, I1, rv, ev, eH⟩ := got
  subst ev
  subst eH
  refine ⟨I1.kIn, ?_⟩
  have len1 : us.length = 1 := rv.length.symm
  have bd := hb s1 us I1.kIn (by simpa using len1)
  rw [List.append_nil] at bd
  have pin := I1.pin (a, oe) (List.mem_append_left _ List.mem_cons_self)
  have pinOk : L2H.PinOk X.stack H1 s1 (a, oe) := ⟨pin.1, pin.2.1, fun hm => (List.mem_cons.mp (I1.stkSub a hm)).elim pin.2.2.1 pin.2.2.2.1, pin.2.2.2.2⟩
  have room : L2H.RoomH k (X.A.mark (some (.ref a))) := ⟨hr.dp, hr.un⟩
  refine wpAny_call (codeAny_mono (F.run _ X.stack s1 H1 ⟨us, []⟩ us [.ref a] Q (a, oe) room rfl pinOk I1.env0 bd rv ask) fun r s' done => ?_)
  match r with
  | .error e => exact done.elim
  | .ok (.ret u) => exact I1.after done
  | .ok .next => exact done.elim
  | .ok .brk => exact done.elim
  | .ok .cont => exact done.elim
end
/-! ### __init__ -/
/-- self.f = v, once -/
def spInit (K : PySem.W.Frag) (f : Str) : Sp := fun vs H Q _ => ∃ (a C : Addr) (v : V), vs = [.ref a, v] ∧ OexC K C ∧ PySem.W.findIn K (.ref C) f = some none ∧ H a = some (exo a C none) ∧
  ∀ dx, H dx = none → dx ≠ a → Q .non (upd (upd H dx (exd dx [(f, v)])) a (exo a C (some dx)))
theorem init_ok {P : Program} {w : World} {K : PySem.W.Frag} {mg : Str → Option Value} {base : Heap} {x qual : Str} {st : Stmt} {fI : Addr} {fd : FuncData} {ps : List Str} {k : Nat} {f y z : Str} {p1 p2 p3 pos : Pos}
    (F : Fun K x qual st fI fd) (S : FnScope [y, z] [y, z] (defScope st)) (hb : defBody st = [.Assign [.Attribute (.Name y p1) f p2] (.Name z p3) pos])
    (vy : Vis (defScope st) y) (vz : Vis (defScope st) z) (d1 : (y == ("__debug__" : Str)) = false := by decide) (d2 : (y == ("__classdict__" : Str)) = false := by decide) (d3 : (z == ("__debug__" : Str)) = false := by decide) (d4 : (z == ("__classdict__" : Str)) = false := by decide)
    (hs : ∀ env : Env, swapsWith (.Name z p3) (some (.Attribute (.Name y p1) f p2)) pos.line env = pure false := by intro _; rfl) :
    FnOk P w K mg base (L2.CX P w) (k + 1) fI fd [y, z] (spInit K f) :=
  F.okX S (fun vs H Q E h => by obtain ⟨a, C, v, rfl, _⟩ := h; rfl) fun cdv A outer s H vs Q E hr h => by
    obtain ⟨a, C, v, rfl, T, hn, ha, q⟩ := h
    rw [hb]
    refine ⟨_, pss_one (ps_ost (X := cxOf (L2.CX P w) P w K mg base [y, z] qual (defScope st) fI cdv A outer s H E) (pe_var (i := 0) rfl vy d1 d2) (pe_var (i := 1) rfl vz d3 d4) (hs _)), ?_⟩
    exact ⟨v, rfl, .ref a, rfl, a, C, rfl, T, hn, .inl ⟨ha, fun dx hx hne => q dx hx hne⟩⟩
/-- an own class of errors: its address, its __init__, the one field -/
structure Kls (P : Program) (w : World) (K : PySem.W.Frag) (mg : Str → Option Value) (base : Heap) (T : XT) (k : Nat) (cn f : Str) (C : Addr) : Prop where
  t : T cn = some C
  m : mg cn = some (.ref C)
  o : OexC K C
  no : PySem.W.findIn K (.ref C) f = some none
  ini : ∃ (fI : Addr) (fd : FuncData) (ps : List Str), FnOk P w K mg base (L2.CX P w) k fI fd ps (spInit K f) ∧ PySem.W.findIn K (.ref C) "__init__" = some (some (.ref fI)) ∧ PySem.W.typeIn K (.ref fI) = some (.type "function") ∧ L2.Binds K fd ps []
theorem upd_made {H : Hp} {a dx : Addr} {o1 o2 o3 u : HO} (ha : H a = none) (hne : dx ≠ a) : upd (del (upd (upd (upd H a o1) dx o2) a o3) a) dx u = upd H dx u := by
  funext b
  by_cases h1 : b = dx
  · rw [h1, upd_same, upd_same]
  · rw [upd_ne h1, upd_ne h1]
    by_cases h2 : b = a
    · rw [h2, del_same, ha]
    · rw [del_ne h2, upd_ne h2, upd_ne h1, upd_ne h2]
section
variable {X : Cx} {K : PySem.W.Frag} {T : XT} {W : WX} {e : Expr} {te : TE} {ve : EvE} {cn f : Str} {C : Addr} {p pos pos' : Pos}
/-- the reading of raise C(e) -/
def tRaise (K : PySem.W.Frag) (f : Str) (C : Addr) (W : WX) (te : TE) : TS := fun _ σ H => te σ H fun y H1 => [y].length ≤ 1000 ∧ ∀ a, H1 a = none → spInit K f (.ref a :: ([y] ++ [])) (upd H1 a (exo a C none))
  (fun v H2 => v = .non ∧ ∃ (d : Addr) (fs : List (Str × V)), H2 a = some (exo a C (some d)) ∧ H2 d = some (exd d fs) ∧ H1 d = none ∧ W (.ref C) (some d) σ (upd (del H2 a) d (.xd fs))) (fun _ _ _ => False)
theorem ps_raise1 {k : Nat} (hc : X.calm = true) (Kl : Kls X.prog X.w X.K X.mg X.base T k cn f C) (hr : Room (k + 1) X.A) (tk : Takes X W) (he : PE X e te) (hg : Gl X cn := by rfl) (hdb : (cn == ("__debug__" : Str)) = false := by decide)
    (hs : starEach [e] X.env = (false, eval e X.env) :: starEach [] X.env := by rfl) : PS X (.Raise (some (.Call (.Name cn p) [e] [] pos)) none pos') (tRaise X.K f C W te) := by
  obtain ⟨fI, fd, ps, h1, h2, h3, h4⟩ := Kl.ini
  have mk := pmk_oex (p := p) (pos := pos) (dvs := []) Kl.o h2 h3 h1 hr h4 .nil (passes_call (W := W) (E := fun _ _ _ => False) tk fun _ _ _ _ z => z.elim) hg Kl.m (pa_cons he pa_nil hs) hdb hs (by rfl)
  exact ps_raise (pos := pos') hc tk mk
theorem good_raise1 (hT : T cn = some C) (hO : OexC K C) (hno : PySem.W.findIn K (.ref C) f = some none) (he : GoodE K T W te ve) : GoodS K T W (tRaise K f C W te) (sRaise1 cn f ve) := by
  intro g B ρ st σ H D rel
  unfold sRaise1 tRaise
  refine EndS.bind (U := te σ H) (U2 := fun y H1 => [y].length ≤ 1000 ∧ ∀ a, H1 a = none → spInit K f (.ref a :: ([y] ++ [])) (upd H1 a (exo a C none))
    (fun v H2 => v = .non ∧ ∃ (d : Addr) (fs : List (Str × V)), H2 a = some (exo a C (some d)) ∧ H2 d = some (exd d fs) ∧ H1 d = none ∧ W (.ref C) (some d) σ (upd (del H2 a) d (.xd fs))) (fun _ _ _ => False)) (he.share rel) fun v st1 B1 ρ1 y H1 _ m1 r1 o1 => ?_
  intro w
  have o1 : Rep K B1 ρ1 y v.d := o1
  refine ⟨by show 1 ≤ 1000; decide, fun a ha => ⟨a, C, y, rfl, hO, hno, upd_same, fun dx hdx hne => ⟨rfl, dx, [(f, y)], upd_same, ?_, ?_, ?_⟩⟩⟩
  · rw [upd_ne hne, upd_same]
  · rw [upd_ne hne] at hdx
    exact hdx
  · rw [upd_ne hne] at hdx
    rw [upd_made ha hne]
    exact w _ ρ1 σ _ _ _ ⟨Sub.new r1 hdx, Pre.refl _⟩ (r1.imm hdx) ⟨C, hT, rfl, .inr ⟨dx, [(f, y)], rfl, upd_same, .cons ⟨rfl, o1.mono (Sub.new r1 hdx) (Pre.refl _)⟩ .nil⟩⟩
theorem ss_raise1 {k : Nat} (hc : X.calm = true) (Kl : Kls X.prog X.w X.K X.mg X.base T k cn f C) (hr : Room (k + 1) X.A) (tk : Takes X W) (he : SE X K T W e te ve) (hg : Gl X cn := by rfl) (hdb : (cn == ("__debug__" : Str)) = false := by decide)
    (hs : starEach [e] X.env = (false, eval e X.env) :: starEach [] X.env := by rfl) (hK : X.K = K := by rfl) : SS X K T W (.Raise (some (.Call (.Name cn p) [e] [] pos)) none pos') (tRaise K f C W te) (sRaise1 cn f ve) := by
  subst hK
  exact ⟨ps_raise1 hc Kl hr tk he.pe hg hdb hs, good_raise1 Kl.t Kl.o Kl.no he.good⟩
end
end Mini

set_option Elab.async false
set_option linter.all false
set_option maxRecDepth 100000
set_option maxHeartbeats 1000000
/-! PyX3: a lambda handed to a def that calls it and tells what it raised. -/
namespace Mini
open PySem PySem.Spec PyProof.Rows L2
/-- the promise of the def that tells of an error: G tells what, of the error's class and dict -/
def spF (K : PySem.W.Frag) (G : Value → Option Addr → Hp → VK → Prop) : Addr × Obj → List V → Hp → VK → Prop := fun p vs H Q =>
  vs = [.ref p.1] ∧ ∃ cls d, Zc cls d p.2 ∧ (∃ ws, p.2.data = .fields ws) ∧ G cls d H Q
/-- what the body makes of the lambda's reading -/
def TTr (K : PySem.W.Frag) (CS : Addr) (G : Value → Option Addr → Hp → VK → Prop) (ls : Str) : (XK → Hp → VK → Prop) → Hp → VK → Prop := fun tl H Q =>
  tl (fun cls d H' => ∃ b, PySem.W.exmOne K cls (.ref CS) = some b ∧ (b = true → G cls d H' Q) ∧ (b = false → False)) H (fun _ H' => [V.str ls].length ≤ sizeLine ∧ ∀ p, H' p = none → Q (.ref p) (upd H' p (.tup [.str ls])))
theorem PE.map {X : Cx} {e : Expr} {t t' : TE} (h : PE X e t) (m : ∀ σ H Q, σ.length = X.N.length → t' σ H Q → t σ H Q) : PE X e t' := ⟨fun pins s σ H Q I z => h.run pins s σ H Q I (m σ H Q I.len z)⟩
section
variable {X : Cx} {Ng : List Str} {x a e tn fn q es ls : Str} {sg : Scope} {g CS fF : Addr} {cdg : Value} {k i j : Nat} {fd : FuncData} {y : Str} {G : Value → Option Addr → Hp → VK → Prop} {j1 k1 : Nat} {p1 p2 p3 p4 p5 p6 p7 p8 p9 p10 p11 p12 p13 p14 : Pos}
theorem raised_gives (F : FnP X.prog X.w X.K X.mg X.base k fF fd [y] (spF X.K G)) (hm : X.mg fn = some (.ref fF)) (hk : PySem.W.keepIn X.K (.ref fF) = true) (hb : L2.Binds X.K fd [y] [])
    (hfn : sg.names.lookup fn = some .globalImplicit) (hes : sg.names.lookup es = some .globalImplicit) (hme : X.mg es = some (.ref CS)) (nd : Ng.Nodup) (h0 : Ng[0]? = some a) (hi : Ng[i]? = some e) (hj : Ng[j]? = some tn) (hle : sg.names.lookup e = some .local) (hlt : sg.names.lookup tn = some .local) (hij : i ≠ 0)
    (room : ∀ s : Shared, L2H.RoomH k (X.A.deeper (envOfC x sg s.heap.objs.size g cdg)))
    (d1 : (fn == ("__debug__" : Str)) = false := by decide) (d2 : (es == ("__debug__" : Str)) = false := by decide) (d3 : (e == ("__debug__" : Str)) = false := by decide) (d4 : (e == ("__classdict__" : Str)) = false := by decide)
    (hs : ∀ env : Env, swapsWith (.Call (.Name a p1) [] [] p2) (some (.Name tn p3)) p4.line env = pure false := by intro _; rfl) :
    LamX.GivesTo X Ng x sg g cdg [.Try [.Assign [.Name tn p3] (.Call (.Name a p1) [] [] p2) p4] [.ExceptHandler (some (.Name es p5)) (some e) [.Return (some (.Call (.Name fn p6) [.Name e p7] [] p8)) p9] p10] [] [] p11, .Return (some (.Tuple [.Constant (.str ls) j1 p12] k1 p13)) p14] a q (TTr X.K CS G ls) := by
  intro f c' s H Q tl act hc h
  let Z := (cxOf C8.CX0 X.prog X.w X.K X.mg X.base Ng x sg g cdg X.A X.stack s H C8.E0).nox
  have body : ∀ (W : WX) (pn : List (Addr × Obj)) (xe : Value → Shared → Prop), Takes (Z.tr pn xe) W → PSs (Z.tr pn xe) [.Assign [.Name tn p3] (.Call (.Name a p1) [] [] p2) p4]
      (fun D σ H => ∃ Ech : XK, (∀ cls d σ' H', Ech cls d H' → W cls d σ' H') ∧ σ[0]? = some (some (.ref f)) ∧ H c' = some (LamX.CodeO c' q) ∧ tl Ech H fun v H' => D.nx (σ.set j (some v)) H') := by
    intro W pn xe tk
    refine ⟨fun pins s' σ H' D I h' => ?_⟩
    obtain ⟨Ech, hW, h1, h2, h3⟩ := h'
    have hp := act W pn xe Ech p1 p2 tk hW
    have one := pss_one (ps_set (pos := p4) nd hj (.inl hlt) hp (hs _) (.inr hlt))
    exact one.run pins s' σ H' D I ⟨h1, h2, h3⟩
  have suite : ∀ (b : Addr) (oe : Obj) (cls : Value) (d : Option Addr) (pn : List (Addr × Obj)), Zc cls d oe → (∃ vs, oe.data = .fields vs) → PSs (Z.suite b ((b, oe) :: pn)) [.Return (some (.Call (.Name fn p6) [.Name e p7] [] p8)) p9]
      (tRet fun σ H Q => (i < σ.length → σ[i]? = some (some (.ref b))) ∧ G cls d H Q) := by
    intro b oe cls d pn hz hf
    exact pss_one (ps_ret (PE.map (pe_callP (X := Z) F (room s) hfn hm hk hb hi (.inl hle) d1 d3 d4) fun σ H Q hl z => ⟨z.1 (hl ▸ (List.getElem?_eq_some_iff.mp hi).1), rfl, cls, d, hz, hf, z.2⟩))
  have tr := ps_try_as (X := Z) (c := .ref CS) (pos := p11) (pos' := p10) (np := p5) (Wout := fun _ _ _ _ => False) rfl rfl nd hi hle ⟨hes, d2, .inl hme⟩ LamX.takes0 (fun W pn xe tk _ => body W pn xe tk) suite
  refine ⟨_, pss_cons tr (pss_one (ps_ret (pe_tup (pa_cons pe_str pa_nil)))), ?_⟩
  refine ⟨fun cls d H' => ∃ b, PySem.W.exmOne X.K cls (.ref CS) = some b ∧ (b = true → G cls d H' Q) ∧ (b = false → False), fun cls d σ' H' hE => ?_, ?_, hc, ?_⟩
  · obtain ⟨b, e1, e2, e3⟩ := hE
    exact ⟨b, e1, fun hb a _ => ⟨fun hl => List.getElem?_set_self (by simpa using hl), e2 hb⟩, fun hb => e3 hb⟩
  · unfold L2.start
    rfl
  · exact h
theorem tbl_ne {ps : Array Value} {c : Addr} {q : Str} : HO.tbl ps ≠ LamX.CodeO c q := fun z => (LamX.codeO_ne ps z.symm).elim
variable {K : PySem.W.Frag} {T : XT} {W : WX} {t : XK → TE} {ve : EvE} {ff : Xc → Option D} {Tb : List (Addr × Str)}
theorem lst_of_code {vs : List V} {H : Hp} {p : Addr} (h : H p = some (.lst vs)) : ¬ ∃ q, H p = some (LamX.CodeO p q) := fun ⟨q, z⟩ => lst_code (Option.some.inj (h.symm.trans z))
theorem tabsOf_mem : ∀ {om : List Cell} {n P : Nat} {q : Str}, om[n]? = some (.tab P q) → (P, q) ∈ tabsOf om
  | c :: om, 0, P, q, h => by
    cases (Option.some.inj h)
    exact List.mem_cons_self
  | c :: om, n + 1, P, q, h => by
    have := tabsOf_mem (om := om) (n := n) h
    cases c with
    | tab P' q' => exact List.mem_cons_of_mem _ this
    | lst _ => exact this
    | dK _ => exact this
    | dT _ => exact this
theorem tabsOf_get : ∀ {om : List Cell} {p : Nat × Str}, p ∈ tabsOf om → ∃ n : Nat, om[n]? = some (Cell.tab p.1 p.2)
  | c :: om, p, h => by
    cases c with
    | tab P q =>
      rcases List.mem_cons.mp h with e | h
      · subst e; exact ⟨0, rfl⟩
      · obtain ⟨n, e⟩ := tabsOf_get h; exact ⟨n + 1, e⟩
    | lst _ => obtain ⟨n, e⟩ := tabsOf_get (om := om) h; exact ⟨n + 1, e⟩
    | dK _ => obtain ⟨n, e⟩ := tabsOf_get (om := om) h; exact ⟨n + 1, e⟩
    | dT _ => obtain ⟨n, e⟩ := tabsOf_get (om := om) h; exact ⟨n + 1, e⟩
/-- the tables stand as they are told -/
theorem Rel.tabs {g : Gx} {B : Hp} {ρ : List Addr} {st : St} {σ : L2.St} {H : Hp} (r : Rel K g B ρ st σ H) (hT : tabsOf st.om = Tb) : LamX.Tabs Tb H := by
  intro p hp
  rw [← hT] at hp
  obtain ⟨n, hn⟩ := tabsOf_get hp
  have hl : n < ρ.length := by rw [r.cl]; exact (List.getElem?_eq_some_iff.mp hn).1
  obtain ⟨o, ho, e1, ps, e2, e3, e4⟩ := r.cell n _ ρ[n] hn (List.getElem?_eq_getElem hl)
  subst e2
  rw [e1] at ho
  exact ⟨ps, ho, e3, fun pos cv hc => (e4 pos cv hc).elim fun c z => ⟨c, z.1, r.sub _ _ z.2⟩⟩
open Classical in
/-- what is known, and the code objects -/
noncomputable def withCodes (B H1 : Hp) : Hp := fun b => match B b with
  | some o => some o
  | none => if ∃ q, H1 b = some (LamX.CodeO b q) then H1 b else none
theorem wc_sub {B H1 : Hp} : Sub B (withCodes B H1) := fun b o e => by unfold withCodes; rw [e]
theorem wc_none {B H1 : Hp} {b : Addr} (h : B b = none) (h1 : ¬ ∃ q, H1 b = some (LamX.CodeO b q)) : withCodes B H1 b = none := by unfold withCodes; rw [h]; exact if_neg h1
theorem wc_code {B H1 : Hp} {b : Addr} {q : Str} (h : B b = none) (h1 : H1 b = some (LamX.CodeO b q)) : withCodes B H1 b = some (LamX.CodeO b q) := by unfold withCodes; rw [h]; exact (if_pos ⟨q, h1⟩).trans h1
theorem wc_cases {B H1 : Hp} {b : Addr} {u : HO} (h : withCodes B H1 b = some u) : B b = some u ∨ (B b = none ∧ ∃ q, u = LamX.CodeO b q ∧ H1 b = some u) := by
  cases e : B b with
  | some o =>
    have := wc_sub (H1 := H1) b o e
    rw [h] at this
    cases this
    exact .inl rfl
  | none =>
    by_cases hc : ∃ q, H1 b = some (LamX.CodeO b q)
    · obtain ⟨q, hq⟩ := hc
      have := wc_code e hq
      rw [h] at this
      cases this
      exact .inr ⟨rfl, q, rfl, hq⟩
    · rw [wc_none e hc] at h
      cases h
/-- the state behind the lambda's making -/
theorem Rel.madeLam {g : Gx} {B : Hp} {ρ : List Addr} {st : St} {σ : L2.St} {H H1 : Hp} (r : Rel K g B ρ st σ H) (hT : tabsOf st.om = Tb) (hx : LamX.ExtN H H1) (ht : LamX.Tabs Tb H1) : Rel K g (withCodes B H1) ρ st σ H1 := by
  have kB : Sub B H1 := fun b o e => hx b o (r.sub b o e) fun ps z => r.tb b ps (z ▸ e)
  have kL : ∀ {p vs}, H p = some (.lst vs) → H1 p = some (.lst vs) := fun e => hx _ _ e fun ps z => by cases z
  have nC : ∀ a ∈ ρ, ¬ ∃ q, H1 a = some (LamX.CodeO a q) := by
    intro a ha
    obtain ⟨n, hn⟩ := List.mem_iff_getElem?.mp ha
    have hl : n < st.om.length := by rw [← r.cl]; exact (List.getElem?_eq_some_iff.mp hn).1
    obtain ⟨o, ho, hc⟩ := r.cell n _ a (List.getElem?_eq_getElem hl) hn
    generalize hcc : st.om[n] = c at hc
    rintro ⟨q, hq⟩
    cases c with
    | lst ds =>
      obtain ⟨vs, e, _⟩ := hc
      subst e
      exact lst_of_code (kL ho) ⟨q, hq⟩
    | dK kvs =>
      obtain ⟨kws, e, _⟩ := hc
      subst e
      have := (hx _ _ ho fun ps z => by cases z).symm.trans hq
      exact dk_code (Option.some.inj this)
    | dT kvs =>
      obtain ⟨kws, e, _⟩ := hc
      subst e
      have := (hx _ _ ho fun ps z => by cases z).symm.trans hq
      exact dt_code (Option.some.inj this)
    | tab P q' =>
      obtain ⟨e, _⟩ := hc
      subst e
      have hm : (a, q') ∈ Tb := by rw [← hT]; exact tabsOf_mem (n := n) (by rw [List.getElem?_eq_getElem hl, hcc])
      obtain ⟨ps, e1, _⟩ := ht _ hm
      exact tbl_ne (Option.some.inj (e1.symm.trans hq))
  refine ⟨r.len, fun a u e => ?_, fun a u e => hx a u (r.prot a u e) fun ps z => r.tp a ps (z ▸ e), fun a ha => ?_, r.nd, r.cl, fun n c a h1 h2 => ?_, fun a ha => ⟨wc_none (r.cellN a ha).1 (nC a ha), (r.cellN a ha).2⟩, fun i v e => ?_, fun i ds p e1 e2 => ?_, r.uni, r.old.trans wc_sub, fun b ps e => ?_, r.tp⟩
  · rcases wc_cases e with z | ⟨_, q, _, z⟩
    · exact kB a u z
    · exact z
  · cases e : withCodes B H1 a with
    | none => exact absurd e ha
    | some u =>
      rcases wc_cases e with z | ⟨_, q, z, _⟩
      · rcases r.new a (by rw [z]; exact fun z => nomatch z) with y | y | ⟨q, y⟩
        · exact .inl y
        · exact .inr (.inl y)
        · rw [z] at y
          exact .inr (.inr ⟨q, by rw [Option.some.inj y]⟩)
      · exact .inr (.inr ⟨q, by rw [z]⟩)
  · obtain ⟨o, ho, hc⟩ := r.cell n c a h1 h2
    cases c with
    | lst ds =>
      obtain ⟨vs, e, h⟩ := hc
      subst e
      exact ⟨_, kL ho, vs, rfl, h.mono wc_sub (Pre.refl _)⟩
    | dK kvs =>
      obtain ⟨kws, e, h⟩ := id hc
      subst e
      exact ⟨_, hx _ _ ho (fun ps z => by cases z), hc.mono wc_sub (Pre.refl _)⟩
    | dT kvs =>
      obtain ⟨kws, e, h⟩ := id hc
      subst e
      exact ⟨_, hx _ _ ho (fun ps z => by cases z), hc.mono wc_sub (Pre.refl _)⟩
    | tab P q =>
      obtain ⟨e, _⟩ := hc
      subst e
      obtain ⟨ps, e1, e2, e3⟩ := ht _ (by rw [← hT]; exact tabsOf_mem h1 : (a, q) ∈ Tb)
      refine ⟨_, e1, rfl, ps, rfl, e2, fun pos cv hcv => ?_⟩
      obtain ⟨c, z1, z2⟩ := e3 pos cv hcv
      refine ⟨c, z1, ?_⟩
      cases y : B c with
      | none => exact wc_code y z2
      | some u =>
        have := kB c u y
        rw [z2] at this
        cases this
        exact wc_sub c _ y
  · obtain ⟨x, h1, h2⟩ := r.slot i v e
    refine ⟨x, h1, ?_⟩
    cases v with
    | sh d => exact h2.mono wc_sub (Pre.refl _)
    | ow ds =>
      obtain ⟨p, vs, h3, h4, h5⟩ := h2
      exact ⟨p, vs, h3, kL h4, h5.mono wc_sub (Pre.refl _)⟩
  · obtain ⟨z1, z2, z3⟩ := r.own i ds p e1 e2
    obtain ⟨p', vs, h1, h2, _⟩ := r.ownH e1
    rw [h1] at e2
    cases e2
    exact ⟨wc_none z1 (lst_of_code (kL h2)), z2, z3⟩
  · rcases wc_cases e with z | ⟨_, q, z, _⟩
    · exact r.tb b ps z
    · exact tbl_ne z
theorem good_raised (ht : ∀ E : XK, GoodE K T (fun cls d _ H => E cls d H) (t E) ve) (hsub : ∀ cn C, T cn = some C → PySem.W.exmOne K (.ref C) (.ref CS) = some true)
    (hG : ∀ (g : Gx) B ρ st σ H xc cls d dv, Rel K g B ρ st σ H → XcR K T B ρ H xc cls d → ff xc = some dv → ∀ Q : VK, (∀ B' v H', Sub B B' → Rel K g B' ρ st σ H' → Rep K B' ρ v dv → Q v H') → G cls d H Q) :
    GoodE K T W (LamX.tLam Tb (TTr K CS G ls) t) (eRaised Tb ve ff (.tup [.str ls])) := by
  intro g B ρ st σ H rel
  unfold eRaised
  split
  · rename_i hT
    have E2 := fun (E : XK) H1 (hx : LamX.ExtN H H1) (h1 : LamX.Tabs Tb H1) => ht E g _ ρ st σ H1 (rel.madeLam hT hx h1)
    cases e : ve st with
    | no => trivial
    | ok v s1 =>
      intro Q hQ
      refine ⟨rel.tabs hT, fun H1 hx h1 => ?_⟩
      have z := E2 (fun cls d H' => ∃ b, PySem.W.exmOne K cls (.ref CS) = some b ∧ (b = true → G cls d H' Q) ∧ (b = false → False)) H1 hx h1
      rw [e] at z
      refine z _ fun B' ρ' x H' m r' o => ⟨by rw [sizeLine_eq]; show 1 ≤ _; decide, fun p hp => ?_⟩
      exact hQ _ ρ' (.ref p) _ (Mono.trans ⟨wc_sub, Pre.refl _⟩ (m.trans ⟨Sub.new r' hp, Pre.refl _⟩)) (r'.imm hp) (.tup upd_same (.cons (.str _) .nil))
    | ex x s1 =>
      dsimp only
      cases ef : ff x with
      | none => trivial
      | some dv =>
        intro Q hQ
        refine ⟨rel.tabs hT, fun H1 hx h1 => ?_⟩
        have z := E2 (fun cls d H' => ∃ b, PySem.W.exmOne K cls (.ref CS) = some b ∧ (b = true → G cls d H' Q) ∧ (b = false → False)) H1 hx h1
        rw [e] at z
        refine z _ fun B' ρ' cls d H' m r' xr => ?_
        obtain ⟨C, hC, hcls, _⟩ := id xr
        refine ⟨true, by rw [hcls]; exact hsub _ C hC, fun _ => ?_, fun z => nomatch z⟩
        refine hG g B' ρ' s1 σ H' x cls d dv r' xr ef Q fun B2 v H2 sb r2 o => ?_
        exact hQ B2 ρ' v H2 (Mono.trans ⟨wc_sub, Pre.refl _⟩ (m.trans ⟨sb, Pre.refl _⟩)) r2 o
  · trivial
end
end Mini

set_option Elab.async false
set_option linter.all false
set_option maxRecDepth 100000
set_option maxHeartbeats 1000000
/-! PyX4: raised(lambda: e) as a rule. -/
namespace Mini
open PySem PySem.Spec PyProof.Rows L2
section
variable {X : Cx} {K : PySem.W.Frag} {T : XT} {W : WX} {Ng : List Str} {x a e tn fn es ls y : Str} {st : Stmt} {c P CS fF : Addr} {k kf i j j1 k1 : Nat} {fd : FuncData} {G : Value → Option Addr → Hp → VK → Prop} {Tb : List (Addr × Str)}
  {params : Arguments} {body : Expr} {scope : Scope} {t : XK → TE} {ve : EvE} {ff : Xc → Option D} {p lpos pos p1 p2 p3 p4 p5 p6 p7 p8 p9 p10 p11 p12 p13 p14 : Pos}
/-- the def that calls what it got and tells what it raised -/
structure RaisedTxt (K : PySem.W.Frag) (mg : Str → Option Value) (x : Str) (st : Stmt) (Ng : List Str) (a e tn fn es ls : Str) (i j : Nat) : Prop where
  txt : TxtD K mg x st [a]
  sc : FnScope Ng [a] (defScope st)
  bd : ∃ (j1 k1 : Nat) (p1 p2 p3 p4 p5 p6 p7 p8 p9 p10 p11 p12 p13 p14 : Pos), (∀ env : Env, swapsWith (.Call (.Name a p1) [] [] p2) (some (.Name tn p3)) p4.line env = pure false) ∧
    defBody st = [.Try [.Assign [.Name tn p3] (.Call (.Name a p1) [] [] p2) p4] [.ExceptHandler (some (.Name es p5)) (some e) [.Return (some (.Call (.Name fn p6) [.Name e p7] [] p8)) p9] p10] [] [] p11, .Return (some (.Tuple [.Constant (.str ls) j1 p12] k1 p13)) p14]
  gfn : (defScope st).names.lookup fn = some .globalImplicit
  ges : (defScope st).names.lookup es = some .globalImplicit
  h0 : Ng[0]? = some a
  hi : Ng[i]? = some e
  hj : Ng[j]? = some tn
  le : (defScope st).names.lookup e = some .local
  lt : (defScope st).names.lookup tn = some .local
  la : (defScope st).names.lookup a = some .local
  ne : i ≠ 0
  d1 : (fn == ("__debug__" : Str)) = false
  d2 : (es == ("__debug__" : Str)) = false
  d3 : (e == ("__debug__" : Str)) = false
  d4 : (e == ("__classdict__" : Str)) = false
theorem s_raised (R : RaisedTxt K X.mg x st Ng a e tn fn es ls i j) (Ff : FnP X.prog X.w K X.mg X.base kf fF fd [y] (spF K G)) (hmf : X.mg fn = some (.ref fF)) (hkf : PySem.W.keepIn K (.ref fF) = true) (hbf : L2.Binds K fd [y] []) (hme : X.mg es = some (.ref CS))
    (TB : LamX.TabB X.base X.mg c P) (hcode : X.env.code = .ref c) (hmT : (P, X.env.qual ++ "<lambda>") ∈ Tb) (hu : ∀ p ∈ Tb, p.1 = P → p.2 = X.env.qual ++ "<lambda>") (hr : Room (k + 2) X.A) (hkk : kf ≤ k + 1) (L : LamX.LamS X.env.scope scope)
    (hdef : defaultsOf params X.env = ([], []))
    (hbind : ∀ (q : Str) (cl : List (Str × Addr)) (pm cv ctv : Value), bindArgs (PySem.W.kla_fn "<lambda>" q params body scope cl pm cv ctv) ⟨[], []⟩ = pure [])
    (hb : ∀ (A : Around) (outer : List Env) (s : Shared) (H : Hp) (E : XK) (f c' : Addr), Room k (A.deeper (LamX.lamEnv X scope s.heap.objs.size f c')) → SE (LamX.lamCx X A outer s H E scope f c') K T (fun cls d _ H => E cls d H) body (t E) ve)
    (hsub : ∀ cn C, T cn = some C → PySem.W.exmOne K (.ref C) (.ref CS) = some true)
    (hG : ∀ (g : Gx) B ρ st σ H xc cls d dv, Rel K g B ρ st σ H → XcR K T B ρ H xc cls d → ff xc = some dv → ∀ Q : VK, (∀ B' v H', Sub B B' → Rel K g B' ρ st σ H' → Rep K B' ρ v dv → Q v H') → G cls d H Q)
    (hg : Gl X x) (hdb : (x == ("__debug__" : Str)) = false) (hd : (a == ("__debug__" : Str)) = false) (hcd : (a == ("__classdict__" : Str)) = false) (hK : X.K = K) :
    SE X K T W (.Call (.Name x p) [.Lambda params body scope lpos] [] pos) (LamX.tLam Tb (TTr K CS G ls) t) (eRaised Tb ve ff (.tup [.str ls])) := by
  subst hK
  obtain ⟨g, fdr, F, hm, hbr⟩ := R.txt.ex
  obtain ⟨oc, od, kV, doc, pm, an, cdv, ct, osl, rfl, lk, hcd'⟩ := F.ex
  obtain ⟨j1, k1, p1, p2, p3, p4, p5, p6, p7, p8, p9, p10, p11, p12, p13, p14, hsw, hbd⟩ := R.bd
  have gives : LamX.GivesTo X Ng x (defScope st) g cdv (defBody st) a (X.env.qual ++ "<lambda>") (TTr X.K CS G ls) := by
    rw [hbd]
    have rm : Room (k + 1) (X.A) := hr.mono (Nat.le_succ _)
    exact raised_gives Ff hmf hkf hbf R.gfn R.ges hme R.sc.nd R.h0 R.hi R.hj R.le R.lt R.ne (fun s => (L2H.roomH_of (hr.deeper _)).mono hkk) R.d1 R.d2 R.d3 R.d4 hsw
  refine ⟨LamX.pe_lamcall hg hm F.kp lk hcd' (.all hbr) R.sc R.h0 (.inl R.la) gives TB hcode hmT hu hr L hdef hbind (fun A outer s H E f c' h => (hb A outer s H E f c' h).pe) hdb hd hcd, ?_⟩
  refine good_raised (fun E => ?_) hsub hG
  have rm : Room (k + 1) X.A := hr.mono (Nat.le_succ _)
  exact (hb X.A X.stack X.s_0 X.H_0 E 0 0 (rm.deeper _)).good
end
end Mini

set_option Elab.async false
set_option linter.all false
set_option maxRecDepth 100000
set_option maxHeartbeats 1000000
/-! PyX5: the def that tells of an error, by its clauses. -/
namespace Mini
open PySem PySem.Spec PyProof.Rows L2
/-- the body: if isinstance(n, C): return (s,) or (s, n.f); ..; return (other,) -/
inductive FB (n other : Str) : List (Str × Str × Option Str) → List Stmt → Prop
  | nil {j k p1 p2 p3} : FB n other [] [.Return (some (.Tuple [.Constant (.str other) j p1] k p2)) p3]
  | c0 {cs s cl rest p1 p2 p3 p4 p5 j k q1 q2 q3} : FB n other cl rest → FB n other ((cs, s, none) :: cl)
      (.If (.Call (.Name "isinstance" p1) [.Name n p4, .Name cs p5] [] p2) [.Return (some (.Tuple [.Constant (.str s) j q1] k q2)) q3] [] p3 :: rest)
  | c1 {cs s f cl rest p1 p2 p3 p4 p5 j k q1 q2 q3 q4 q5} : FB n other cl rest → FB n other ((cs, s, some f) :: cl)
      (.If (.Call (.Name "isinstance" p1) [.Name n p4, .Name cs p5] [] p2) [.Return (some (.Tuple [.Constant (.str s) j q1, .Attribute (.Name n q4) f q5] k q2)) q3] [] p3 :: rest)
def ret1 (s f : Str) (d : Option Addr) (H : Hp) (Q : VK) : Prop := ∃ (dd : Addr) (fs : List (Str × V)) (v : V), d = some dd ∧ H dd = some (.xd fs) ∧ fs.lookup f = some v ∧ ∀ p, H p = none → Q (.ref p) (upd H p (.tup [.str s, v]))
/-- its reading for an error of a class that is of those that kb tells -/
def GF (kb : Str → Bool) (other : Str) : List (Str × Str × Option Str) → Option Addr → Hp → VK → Prop
  | [], _, H, Q => ∀ p, H p = none → Q (.ref p) (upd H p (.tup [.str other]))
  | (cs, s, none) :: cl, d, H, Q => (∀ dd, d = some dd → ∃ fs, H dd = some (.xd fs)) ∧ if kb cs = true then (∀ p, H p = none → Q (.ref p) (upd H p (.tup [.str s]))) else GF kb other cl d H Q
  | (cs, s, some f) :: cl, d, H, Q => (∀ dd, d = some dd → ∃ fs, H dd = some (.xd fs)) ∧ if kb cs = true then ret1 s f d H Q else GF kb other cl d H Q
section
variable {X : Cx} {a D : Addr} {oe : Obj} {pn : List (Addr × Obj)} {d : Option Addr} {i : Nat} {n other : Str}
/-- what must be known of the classes -/
structure Tests (X : Cx) (D : Addr) (kb : Str → Bool) (cl : List (Str × Str × Option Str)) : Prop where
  t : ∀ c ∈ cl, ∃ C, Gl X c.1 ∧ X.mg c.1 = some (.ref C) ∧ PySem.W.kitOne X.K (.ref D) (.ref C) = some (kb c.1) ∧ (c.1 == ("__debug__" : Str)) = false ∧ ∀ f, c.2.2 = some f → PySem.W.findIn X.K (.ref D) f = some none
theorem fault_walk (hN : X.N[i]? = some n) (hv : Vis X.env.scope n) (Cd : L2.ExcC X.K D) (hcl : (PySem.W.clsIn X.K D).isSome = true) (Xf : XfC X.K D) (hz : Zc (.ref D) d oe) (hf : ∃ vs, oe.data = .fields vs) (hg : Gl X "isinstance") (hm : X.mg "isinstance" = none)
    (hd : (n == ("__debug__" : Str)) = false) (hcd : (n == ("__classdict__" : Str)) = false) {kb : Str → Bool} {cl : List (Str × Str × Option Str)} {body : List Stmt} (b : FB n other cl body) (T : Tests X D kb cl) :
    Faults (X.suite a ((a, oe) :: pn)) i a body (fun H Q => GF kb other cl d H Q) := by
  induction b with
  | nil => exact faults_ret0
  | @c0 cs s cl rest p1 p2 p3 p4 p5 j k q1 q2 q3 h ih =>
    obtain ⟨C, t1, t2, t3, t4, t5⟩ := T.t _ List.mem_cons_self
    exact faults_if hN hv Cd hcl hz hf hg hm t1 t2 t3 faults_ret0 (ih ⟨fun c hc => T.t c (List.mem_cons_of_mem _ hc)⟩) (by rfl) hd hcd t4
  | @c1 cs s f cl rest p1 p2 p3 p4 p5 j k q1 q2 q3 q4 q5 h ih =>
    obtain ⟨C, t1, t2, t3, t4, t5⟩ := T.t _ List.mem_cons_self
    exact faults_if hN hv Cd hcl hz hf hg hm t1 t2 t3 (faults_ret1 hN hv Xf (t5 f rfl) hz hf hd hcd (by rfl)) (ih ⟨fun c hc => T.t c (List.mem_cons_of_mem _ hc)⟩) (by rfl) hd hcd t4
end
/-- all classes' readings in one -/
def GAll (T : XT) (sub : Str → Str → Bool) (other : Str) (cl : List (Str × Str × Option Str)) : Value → Option Addr → Hp → VK → Prop := fun cls d H Q =>
  ∃ cn C, T cn = some C ∧ cls = .ref C ∧ GF (sub cn) other cl d H Q
/-- what a class of errors must say -/
structure ErrC (K : PySem.W.Frag) (mg : Str → Option Value) (sub : Str → Str → Bool) (cl : List (Str × Str × Option Str)) (cn : Str) (C : Addr) : Prop where
  e : L2.ExcC K C
  c : (PySem.W.clsIn K C).isSome = true
  x : XfC K C
  t : ∀ q ∈ cl, ∃ C', mg q.1 = some (.ref C') ∧ PySem.W.kitOne K (.ref C) (.ref C') = some (sub cn q.1) ∧ ∀ f, q.2.2 = some f → PySem.W.findIn K (.ref C) f = some none
theorem fault_fn {P : Program} {w : World} {K : PySem.W.Frag} {mg : Str → Option Value} {base : Heap} {T : XT} {sub : Str → Str → Bool} {other n x : Str} {cl : List (Str × Str × Option Str)} {k : Nat} {f : Addr} {st : Stmt} {fd : FuncData} {N : List Str}
    (F : Fun K x x st f fd) (S : FnScope N [n] (defScope st)) (b : FB n other cl (defBody st)) (h0 : N[0]? = some n) (hv : (defScope st).names.lookup n = some .local) (hi : (defScope st).names.lookup ("isinstance" : Str) = some .globalImplicit) (hm : mg "isinstance" = none)
    (hd : (n == ("__debug__" : Str)) = false) (hcd : (n == ("__classdict__" : Str)) = false) (hc : ∀ q ∈ cl, (defScope st).names.lookup q.1 = some .globalImplicit ∧ (q.1 == ("__debug__" : Str)) = false)
    (hE : ∀ cn C, T cn = some C → ErrC K mg sub cl cn C) : FnP P w K mg base (k + 1) f fd [n] (spF K (GAll T sub other cl)) :=
  FnP.of F S (fun p vs H Q h => by rw [h.1]; rfl) fun cdv A outer s H vs Q p h => by
    obtain ⟨rfl, cls, d, hz, hf, cn, C, hT, rfl, g⟩ := h
    have E := hE cn C hT
    obtain ⟨t, w1, w2⟩ := fault_walk (X := cxOf C8.CX0 P w K mg base N x (defScope st) f cdv A outer s H C8.E0) (a := p.1) (oe := p.2) (pn := []) (i := 0) h0 (.inl hv) E.e E.c E.x hz hf hi hm hd hcd b (kb := sub cn)
      ⟨fun c hc' => by
        obtain ⟨C', e1, e2, e3⟩ := E.t c hc'
        exact ⟨C', (hc c hc').1, e1, e2, (hc c hc').2, e3⟩⟩
    exact ⟨t, w1, w2 _ _ _ rfl g⟩
theorem lookup_paired {K : PySem.W.Frag} {B : Hp} {ρ : List Addr} {f : Str} : ∀ {kws : List (Str × V)} {fs : List (Str × D)} {v : D}, Paired (fun (p : Str × V) (q : Str × D) => p.1 = q.1 ∧ Rep K B ρ p.2 q.2) kws fs → fs.lookup f = some v → ∃ u, kws.lookup f = some u ∧ Rep K B ρ u v
  | _, _, v, .nil, h => by cases h
  | (k, u) :: kws, (k', w) :: fs, v, .cons r t, h => by
    obtain ⟨e, o⟩ := r
    have e : k = k' := e
    subst e
    rw [List.lookup_cons] at h ⊢
    split at h
    · cases h
      exact ⟨u, rfl, o⟩
    · exact lookup_paired t h
/-- .. and what the evaluator's clauses tell is what it gives -/
theorem fault_good {K : PySem.W.Frag} {T : XT} {sub : Str → Str → Bool} {other : Str} {cl0 : List (Str × Str × Option Str)} (g : Gx) (B : Hp) (ρ : List Addr) (st : St) (σ : L2.St) (H : Hp) (xc : Xc) (cls : Value) (d : Option Addr) (dv : D)
    (r : Rel K g B ρ st σ H) (xr : XcR K T B ρ H xc cls d) (hff : ffOf sub other cl0 xc = some dv) (Q : VK) (hQ : ∀ B' v H', Sub B B' → Rel K g B' ρ st σ H' → Rep K B' ρ v dv → Q v H') : GAll T sub other cl0 cls d H Q := by
  obtain ⟨C, hC, hcls, hd⟩ := xr
  refine ⟨xc.cls, C, hC, hcls, ?_⟩
  have tells : ∀ s : Str, dv = .tup [.str s] → ∀ p, H p = none → Q (.ref p) (upd H p (.tup [.str s])) := fun s e p hp => by
    subst e
    exact hQ _ _ _ (Sub.new r hp) (r.imm hp) (.tup upd_same (.cons (.str _) .nil))
  have dict : ∀ dd, d = some dd → ∃ fs, H dd = some (.xd fs) := fun dd e => by
    rcases hd with ⟨_, e2⟩ | ⟨a, kws, e2, e3, _⟩
    · rw [e2] at e; cases e
    · rw [e2] at e
      cases e
      exact ⟨kws, r.sub _ _ e3⟩
  clear hC hcls
  induction cl0 with
  | nil => exact tells other (Option.some.inj hff).symm
  | cons c cl ih =>
    obtain ⟨cs, s, fo⟩ := c
    unfold ffOf at hff
    cases fo with
    | none =>
      refine ⟨dict, ?_⟩
      by_cases h : sub xc.cls cs = true
      · rw [if_pos h] at hff ⊢
        exact tells s (Option.some.inj hff).symm
      · rw [if_neg h] at hff ⊢
        exact ih hff
    | some f =>
      refine ⟨dict, ?_⟩
      by_cases h : sub xc.cls cs = true
      · rw [if_pos h] at hff ⊢
        dsimp only at hff
        cases e : xc.fs.lookup f with
        | none => rw [e] at hff; cases hff
        | some v =>
          rw [e] at hff
          have hff : D.tup [.str s, v] = dv := Option.some.inj hff
          subst hff
          rcases hd with ⟨e1, _⟩ | ⟨a, kws, e2, e3, e4⟩
          · rw [e1] at e; cases e
          · obtain ⟨u, l, o⟩ := lookup_paired e4 e
            refine ⟨a, kws, u, e2, r.sub _ _ e3, l, fun p hp => ?_⟩
            exact hQ _ _ _ (Sub.new r hp) (r.imm hp) (.tup upd_same (.cons (.str _) (.cons (o.mono (Sub.new r hp) (Pre.refl _)) .nil)))
      · rw [if_neg h] at hff ⊢
        exact ih hff
end Mini

set_option Elab.async false
set_option linter.all false
set_option maxRecDepth 100000
set_option maxHeartbeats 1000000
/-! PyX6: a constant dict of the module; in; slices. -/
namespace Mini
open PySem PySem.Spec PyProof.Rows L2
/-- the dict x of the module holds at each text of tab its number -/
structure GTab (K : PySem.W.Frag) (w : World) (mg : Str → Option Value) (x : Str) (tab : List (Str × Int)) : Prop where
  ex : ∃ d, mg x = some (.ref d) ∧ ∀ z i, tab.lookup z = some i → KDct K w d z (.int i)
section
variable {X : Cx} {K : PySem.W.Frag} {T : XT} {W : WX} {a b c e : Expr} {ta tb tc te : TE} {va vb vc ve : EvE} {x : Str} {p p1 p2 pos : Pos} {tab : List (Str × Int)}
/-- the reading: the dict at d -/
def tGTab (K : PySem.W.Frag) (w : World) (d : Addr) (tb : TE) : TE := tOp (rIxD K w) (tC (.ref d)) tb
theorem good_gtab {w : World} {d : Addr} (h : ∀ z i, tab.lookup z = some i → KDct K w d z (.int i)) (hb : GoodE K T W tb vb) : GoodE K T W (tGTab K w d tb) (eGTab tab vb) := by
  intro g B ρ st σ H rel
  unfold eGTab tGTab tOp
  refine Res.bind (U := tb σ H) (U2 := fun y H2 Q => rIxD K w (.ref d) y H2 Q) (O := oD K) (hb.share rel) fun v s2 B2 ρ2 y H2 _ m2 r2 o2 => ?_
  have o2 : Rep K B2 ρ2 y v.d := o2
  split
  · rename_i z e1
    rw [e1] at o2
    cases o2
    cases e : tab.lookup z with
    | none => trivial
    | some i => exact Res.now (x := .int i) (fun Q q => ⟨d, z, .int i, rfl, rfl, h z i e, q⟩) (Mono.refl _ _) r2 (.int i)
  · trivial
theorem s_gtab (G : GTab K X.w X.mg x tab) (hb : SE X K T W b tb vb) (hg : Gl X x := by rfl) (hdb : (x == ("__debug__" : Str)) = false := by decide) (hs : PlainIx b := by exact fun _ _ => rfl) (hK : X.K = K := by rfl) :
    ∃ d, SE X K T W (.Subscript (.Name x p1) b pos) (tGTab K X.w d tb) (eGTab tab vb) := by
  subst hK
  obtain ⟨d, hm, h⟩ := G.ex
  exact ⟨d, pe_ix ix_kdict (pe_glob hg hm rfl hdb) hb.pe hs, good_gtab h hb.good⟩
theorem any_py {d : D} (hd : d.fine deep = true) : ∀ (ys : List D), D.fines 19 ys = true → ((D.pys ys).any fun z => PyData.eqv z d.py) = ys.any fun z => z.eq d
  | [], _ => by simp [D.pys]
  | y :: ys, h => by
    have h' : D.fine 19 y = true ∧ D.fines 19 ys = true := by
      have : (D.fine 19 y && D.fines 19 ys) = true := h
      simpa using this
    simp only [D.pys, List.any_cons]
    rw [any_py hd ys h'.2, fine_eq 19 deep y d h'.1 hd]
theorem opG_notIn : OpG K (rNotInD K) oNotIn := opG_sh fun B ρ H x y d e v s rx ry hf => by
  unfold oNotIn at hf
  split at hf
  · rename_i ys
    split at hf
    · rename_i hz
      rw [Bool.and_eq_true] at hz
      cases hf
      refine ⟨_, _, rfl, .bl _, fun Q q => ⟨d.py, D.pys ys, rx.dp s deep _ _ hz.1, ry.dp s deep _ _ hz.2, shaped_of hz.1, shaped_of hz.2, ?_⟩⟩
      rw [any_py hz.1 ys hz.2]
      exact q
    · cases hf
  · cases hf
theorem opG_in : OpG K (rInD K) oIn := opG_sh fun B ρ H x y d e v s rx ry hf => by
  unfold oIn at hf
  split at hf
  · rename_i ys
    split at hf
    · rename_i hz
      rw [Bool.and_eq_true] at hz
      cases hf
      refine ⟨_, _, rfl, .bl _, fun Q q => ⟨d.py, D.pys ys, rx.dp s deep _ _ hz.1, ry.dp s deep _ _ hz.2, shaped_of hz.1, shaped_of hz.2, ?_⟩⟩
      rw [any_py hz.1 ys hz.2]
      exact q
    · cases hf
  · cases hf
/-- a slice's part -/
def GoodO (K : PySem.W.Frag) (T : XT) (W : WX) (t : TO) (e : EvO) : Prop := ∀ g B ρ st σ H, Rel K g B ρ st σ H → Res K T W g B ρ σ (t σ H) (fun o _ _ _ _ u => u = o) (e st)
theorem good_pnone : GoodO K T W tNoPart pNone := fun g B ρ st σ H rel => Res.now (x := none) (fun Q q => q) (Mono.refl _ _) rel rfl
theorem good_psome (he : GoodE K T W te ve) : GoodO K T W (tPart te) (pSome ve) := by
  intro g B ρ st σ H rel
  unfold pSome tPart
  refine Res.bind (U := te σ H) (U2 := fun x H1 Q => ∃ i, x = .int i ∧ Q (some i) H1) (O := oD K) (he.share rel) fun v s1 B1 ρ1 x H1 _ m1 r1 o1 => ?_
  have o1 : Rep K B1 ρ1 x v.d := o1
  split
  · rename_i i e
    rw [e] at o1
    cases o1
    exact Res.now (x := some i) (fun Q q => ⟨i, rfl, q⟩) (Mono.refl _ _) r1 rfl
  · trivial
theorem Reps.cut {B : Hp} {ρ : List Addr} {vs : List V} {ds : List D} (h : Reps K B ρ vs ds) (lo hi : Option Int) : Reps K B ρ (cutV vs lo hi) (cutD ds lo hi) := by
  have e : ∀ (n d : Nat) (o : Option Int), HT.sIx n d o = sxD n d o := fun n d o => by
    cases o with
    | none => rfl
    | some v =>
      by_cases hv : 0 ≤ v
      · exact (if_neg (by omega)).trans (if_pos hv).symm
      · exact (if_pos (by omega)).trans (if_neg hv).symm
  unfold cutV cutD
  rw [h.length, e, e]
  exact (h.drop _).take _
theorem good_slL {tl th : TO} {lo hi : EvO} (ha : GoodE K T W ta va) (hl : GoodO K T W tl lo) (hh : GoodO K T W th hi) : GoodE K T W (tSl (rSlL K) ta tl th) (eSlL va lo hi) := by
  intro g B ρ st σ H rel
  unfold eSlL tSl
  refine Res.bind (U := ta σ H) (U2 := fun x H1 Q => tl σ H1 fun l H2 => th σ H2 fun u H3 => rSlL K x l u H3 Q) (O := oD K) (ha.share rel) fun v s1 B1 ρ1 x H1 _ m1 r1 o1 => ?_
  refine Res.bind (U := tl σ H1) (U2 := fun l H2 Q => th σ H2 fun u H3 => rSlL K x l u H3 Q) (hl g B1 ρ1 s1 σ H1 r1) fun l s2 B2 ρ2 l' H2 _ m2 r2 o2 => ?_
  refine Res.bind (U := th σ H2) (U2 := fun u H3 Q => rSlL K x l' u H3 Q) (hh g B2 ρ2 s2 σ H2 r2) fun u s3 B3 ρ3 u' H3 _ m3 r3 o3 => ?_
  have o2 : l' = l := o2
  have o3 : u' = u := o3
  subst o2 o3
  have o1 : Rep K B1 ρ1 x v.d := o1
  split
  · rename_i xs e
    rw [e] at o1
    have o4 := (o1.up m2).up m3
    cases o4 with
    | lst h1 h2 =>
      intro Q hQ
      refine ⟨_, _, rfl, SqL.of (r3.sub _ _ h1), fun p hp => ?_⟩
      obtain ⟨r', o'⟩ := out_new r3 hp (h2.cut l' u')
      exact hQ B3 ρ3 _ _ (Mono.refl _ _) r' o'
  · trivial
end
end Mini

set_option Elab.async false
set_option linter.all false
set_option maxRecDepth 100000
set_option maxHeartbeats 1000000
/-! PyX7: dicts whose keys are tuples. -/
namespace Mini
open PySem PySem.Spec PyProof.Rows L2
section
variable {X : Cx} {K : PySem.W.Frag} {T : XT} {W : WX} {ta tb tc : TE} {a b c : EvE}
theorem kys_rep {B : Hp} {ρ : List Addr} : ∀ {vs : List V} {ds : List D} {k : List Ky}, Reps K B ρ vs ds → D.kys ds = some k → vs = k.map kV
  | _, _, k, .nil, h => by cases h; rfl
  | _, _, k, .cons (v := v) (vs := vs) (d := d) (ds := ds) r t, h => by
    unfold D.kys at h
    cases e : D.ky? d with
    | none => rw [e] at h; cases h
    | some k0 =>
      rw [e] at h
      cases e2 : D.kys ds with
      | none => rw [e2] at h; cases h
      | some ks =>
        rw [e2] at h
        cases h
        rw [D.ky_rep r e, kys_rep t e2]
        rfl
theorem kt_rep {B : Hp} {ρ : List Addr} {v : V} {d : D} {k : List Ky} (r : Rep K B ρ v d) (h : d.kt? = some k) : ∃ p, v = .ref p ∧ B p = some (.tup (k.map kV)) := by
  cases r with
  | tup h1 h2 => exact ⟨_, rfl, by rw [h1, kys_rep h2 h]⟩
  | _ => simp [D.kt?] at h
theorem kv_get_none {κ : Type} [DecidableEq κ] {B : Hp} {ρ : List Addr} {kws : List (κ × V)} {kvs : List (κ × D)} {k : κ} (h : Paired (fun (p : κ × V) (q : κ × D) => p.1 = q.1 ∧ Rep K B ρ p.2 q.2) kws kvs) : (valV kws k).isSome = (kvGet kvs k).isSome := by
  induction h with
  | nil => rfl
  | @cons p q ps qs pq t ih =>
    unfold kvGet
    rw [List.find?_cons]
    by_cases hq : q.1 = k
    · rw [decide_eq_true hq, valV_pos (pq.1.trans hq)]
      rfl
    · rw [decide_eq_false hq, valV_neg (fun z => hq (pq.1.symm.trans z))]
      exact ih
theorem good_tnew : GoodE K T W tDNewT eTNew := by
  intro g B ρ st σ H rel
  unfold eTNew tDNewT
  intro Q hQ p hp
  have r1 := (rel.put (o := .dT []) (rel.lone hp)).newCell (c := .dT []) ⟨(rel.lone hp).nb, (rel.lone hp).np, (rel.lone hp).nc, (rel.lone hp).ns⟩ upd_same ⟨[], rfl, .nil⟩
  refine hQ B (ρ ++ [p]) (.ref p) _ ⟨Sub.refl _, Pre.push _ _⟩ r1 (.cell ?_)
  rw [← rel.cl]
  exact get_push _ _
theorem good_tget (ha : GoodE K T W ta a) (hb : GoodE K T W tb b) : GoodE K T W (tDGet ta tb) (eTGet a b) := by
  intro g B ρ st σ H rel
  unfold eTGet tDGet
  refine Res.bind (U := ta σ H) (U2 := fun x H1 Q => tb σ H1 fun y H2 => ∃ a v, x = V.ref a ∧ DGet H2 a y (some v) ∧ Q v H2) (O := oD K) (ha.share rel) fun v s1 B1 ρ1 x H1 _ m1 r1 o1 => ?_
  refine Res.bind (U := tb σ H1) (U2 := fun y H2 Q => ∃ a v, x = V.ref a ∧ DGet H2 a y (some v) ∧ Q v H2) (O := oD K) (hb.share r1) fun w s2 B2 ρ2 y H2 _ m2 r2 o2 => ?_
  have o1 : Rep K B2 ρ2 x v.d := o1.up m2
  split
  · rename_i n k e1 e2
    have o1' := o1
    rw [e1] at o1'
    cases o1' with
    | cell hn =>
      split
      · rename_i kvs hc
        obtain ⟨u, hu, kws, e3, hp⟩ := r2.cell n _ _ hc hn
        subst e3
        split
        · rename_i d hd
          obtain ⟨z, hz1, hz2⟩ := kv_get hp hd
          obtain ⟨p, e4, e5⟩ := kt_rep o2 e2
          refine Res.now (x := z) (fun Q q => ⟨_, z, rfl, ?_, q⟩) (Mono.refl _ _) r2 hz2
          rw [e4, ← hz1]
          exact DGet.t hu (r2.sub _ _ e5)
        · trivial
      · trivial
  · trivial
theorem good_tin {neg : Bool} {tD : TE → TE → TE} (hT : tD = if neg = true then tDNotIn else tDIn) (hb : GoodE K T W tb b) (ha : GoodE K T W ta a) : GoodE K T W (tD tb ta) (eTIn neg b a) := by
  subst hT
  intro g B ρ st σ H rel
  have e0 : (if neg = true then tDNotIn else tDIn) tb ta σ H = fun Q => tb σ H fun y H1 => ta σ H1 fun x H2 => ∃ a o, x = V.ref a ∧ DGet H2 a y o ∧ Q (V.bl (o.isSome != neg)) H2 := by
    funext Q
    cases neg
    · simp [tDIn]
    · simp [tDNotIn]
  rw [e0]
  unfold eTIn
  refine Res.bind (U := tb σ H) (U2 := fun y H1 (Q : VK) => ta σ H1 fun x H2 => ∃ a o, x = V.ref a ∧ DGet H2 a y o ∧ Q (V.bl (o.isSome != neg)) H2) (O := oD K) (hb.share rel) fun w s1 B1 ρ1 y H1 _ m1 r1 o1 => ?_
  refine Res.bind (U := ta σ H1) (U2 := fun x H2 (Q : VK) => ∃ a o, x = V.ref a ∧ DGet H2 a y o ∧ Q (V.bl (o.isSome != neg)) H2) (O := oD K) (ha.share r1) fun v s2 B2 ρ2 x H2 _ m2 r2 o2 => ?_
  have o1 : Rep K B2 ρ2 y w.d := o1.up m2
  split
  · rename_i n k e1 e2
    have o2' : Rep K B2 ρ2 x v.d := o2
    rw [e1] at o2'
    cases o2' with
    | cell hn =>
      split
      · rename_i kvs hc
        obtain ⟨u, hu, kws, e3, hp⟩ := r2.cell n _ _ hc hn
        subst e3
        obtain ⟨p, e4, e5⟩ := kt_rep o1 e2
        refine Res.now (x := .bl ((kvGet kvs k).isSome != neg)) (fun Q q => ⟨_, valV kws k, rfl, ?_, ?_⟩) (Mono.refl _ _) r2 (.bl _)
        · rw [e4]
          exact DGet.t hu (r2.sub _ _ e5)
        · rw [kv_get_none hp]
          exact q
      · trivial
  · trivial
theorem good_tput (ha : GoodE K T W ta a) (hb : GoodE K T W tb b) (hc : GoodE K T W tc c) : GoodS K T W (L2.sDPut ta tb tc) (sTPut a b c) := by
  intro g B ρ st σ H D rel
  unfold sTPut L2.sDPut
  refine EndS.bind (U := tc σ H) (U2 := fun v H1 => ta σ H1 fun x H2 => tb σ H2 fun y H3 => ∃ a H4, x = V.ref a ∧ DPut H3 a y v H4 ∧ D.nx σ H4) (hc.share rel) fun v st1 B1 ρ1 xv H1 _ m1 r1 o1 => ?_
  refine EndS.bind (U := ta σ H1) (U2 := fun x H2 => tb σ H2 fun y H3 => ∃ a H4, x = V.ref a ∧ DPut H3 a y xv H4 ∧ D.nx σ H4) (ha.share r1) fun w st2 B2 ρ2 xd H2 _ m2 r2 o2 => ?_
  refine EndS.bind (U := tb σ H2) (U2 := fun y H3 => ∃ a H4, xd = V.ref a ∧ DPut H3 a y xv H4 ∧ D.nx σ H4) (hb.share r2) fun k st3 B3 ρ3 xk H3 _ m3 r3 o3 => ?_
  have o2 : Rep K B3 ρ3 xd w.d := o2.up m3
  have o1 : Rep K B3 ρ3 xv v.d := (Rep.up o1 m2).up m3
  split
  · rename_i n ky e1 e2
    rw [e1] at o2
    cases o2 with
    | @cell ad _ hn =>
      split
      · rename_i kvs hcl
        obtain ⟨u, hu, kws, e5, hp⟩ := r3.cell n _ _ hcl hn
        subst e5
        split
        · rename_i hz
          have r4 := r3.setCell (c := .dT (kvPut kvs ky v.d)) (o := .dT (putK kws ky xv)) hn ⟨_, rfl, kv_put o1 hp⟩
          obtain ⟨p, e6, e7⟩ := kt_rep o3 e2
          refine fun w => ⟨_, _, rfl, ?_, w B3 ρ3 σ _ (Mono.refl _ _) r4⟩
          rw [e6]
          exact DPut.t hu (r3.sub _ _ e7) (many_lt (by rw [Paired.length hp]; exact hz))
        · trivial
      · trivial
  · trivial
end
end Mini

set_option Elab.async false
set_option linter.all false
set_option maxRecDepth 100000
set_option maxHeartbeats 1000000
/-! PyX8: d.setdefault(k, x), k a tuple. -/
namespace Mini
open PySem PySem.Spec PyProof.Rows L2
section
variable {X : Cx} {pins : List (Addr × Obj)} {σ : L2.St} {H : Hp} {s : Shared} {a b : Addr} {r : Value} {d : V} {k : List Key} {A : Around} {E : Value → Shared → Prop}
theorem d_setdT {kvs : List (List Key × V)} {Q : Value → Shared → Prop} (hu : A.units + 1 < cLine) (I : Inv X pins σ H s) (e : H a = some (.dT kvs)) (eb : H b = some (.tup (k.map kV))) (rd : RelV d r) (hl : kvs.length < sizeLine)
    (h1 : ∀ v, valV kvs k = some v → ∀ (w' : Value) (s' : Shared), Inv X pins σ H s' → RelV v w' → Q w' s') (h2 : valV kvs k = none → ∀ (w' : Value) (s' : Shared), Inv X pins σ (upd H a (.dT (putK kvs k d))) s' → RelV d w' → Q w' s') :
    wpAny (model X.prog X.w) A (call (.builtin "dict.setdefault") [.ref a, .ref b, r]) Q E s := by
  obtain ⟨len, low, xs, rel, dd⟩ := dt_of I.hok e
  have lx : xs.length ≤ sizeLine := Paired.length rel ▸ len
  refine call_meetsIn PySem.F.slot_dict_setdefault dd.typeIs PySem.F.entry_dict_setdefault (PySem.F.args_dict_setdefault_3 _ _ _) (meetsH_dict_setdefault (tupleKind (mixKind X.prog X.w)) a b low r)
    ⟨tupleKind_room_in1 hu, k, xs, key_of I.hok eb, dd, lx, fun p hp => ?_, fun hn h' dd' hs => ?_⟩
  · have q := rel.val k
    rw [hp] at q
    cases ev : valV kvs k with
    | none => rw [ev] at q; exact (show False from q).elim
    | some v0 => rw [ev] at q; exact h1 v0 ev _ _ (I.tok _) q
  · have q := rel.val k
    rw [hn] at q
    cases ev : valV kvs k with
    | some v0 => rw [ev] at q; exact (show False from q).elim
    | none =>
      have lp : (putK kvs k d).length ≤ sizeLine := Nat.le_trans (length_putK kvs k d) hl
      obtain ⟨o, es, ep, ho, x2, x3, x4, x5, x6⟩ := dd'
      have tups : ∀ c ys, H c = some (.tup ys) → upd H a (.dT (putK kvs k d)) c = some (.tup ys) := fun c ys ec => by
        rw [upd_ne (ne_of ec e (fun z => nomatch z))]
        exact ec
      exact h2 ev _ _ (d_write I (by rw [e]; exact True.intro) hs ⟨o, ho⟩ ⟨lp, low, _, (rel.put k eb rd).keeps tups, o, es, ep, ho, x2, x3, x4, x6⟩) rd
end
/-- d.setdefault(y, z), y a tuple -/
def tSetdT (td ty tx : TE) : TE := fun σ H Q => td σ H fun x H1 => ∃ a, x = .ref a ∧ IsD H1 a ∧ ty σ H1 fun y H2 => tx σ H2 fun z H3 => ∃ (kvs : List (List Key × V)) (k : List Key) (b : Addr), H3 a = some (.dT kvs) ∧ y = .ref b ∧ H3 b = some (.tup (k.map kV)) ∧ kvs.length < sizeLine ∧
  (∀ v, valV kvs k = some v → Q v H3) ∧ (valV kvs k = none → Q z (upd H3 a (.dT (putK kvs k z))))
section
variable {X : Cx} {o e f : Expr} {td ty tx : TE} {apos cpos : Pos}
theorem pe_setdT (hu : X.A.units + 1 < cLine) (ho : PE X o td) (he : PE X e ty) (hf : PE X f tx) (m : M2 X o "setdefault" apos e f cpos) : PE X (.Call (.Attribute o "setdefault" apos) [e, f] [] cpos) (tSetdT td ty tx) := by
  constructor
  intro pins s σ H Q I h
  have first := ho.run pins s σ H _ I h
  refine wpAny_Call_method m.base m.few m.line PySem.F.plainAttrs_dict PySem.F.slot_dict_setdefault PySem.F.type_dict_setdefault (thn first fun u s1 got => ?_)
  obtain ⟨x, H1, I1, rx, a, rfl, isd, q1⟩ := got
  obtain rfl : u = Value.ref a := rx
  obtain ⟨ty1, nodict, _⟩ := isD_at I1 isd
  refine ⟨ty1, nodict, ?_⟩
  rw [m.trees]
  refine Calls.callWith_builtin rfl (Calls.evalArgs_plain (Calls.spliced_cons (thn (he.run pins s1 σ H1 _ I1 q1) fun iv s2 got2 => ?_)))
  obtain ⟨y, H2, I2, ry, q2⟩ := got2
  refine Calls.spliced_cons (thn (hf.run pins s2 σ H2 _ I2 q2) fun fv s3 got3 => Calls.spliced_nil ?_)
  obtain ⟨z, H3, I3, rz, kvs, k, b, ea, rfl, eb, hl, q3, q4⟩ := got3
  obtain rfl : iv = Value.ref b := ry
  exact d_setdT hu I3 ea eb rz hl (fun v hv w' s4 I4 rw' => ⟨v, _, I4, rw', q3 v hv⟩) fun hn w' s4 I4 rw' => ⟨z, _, I4, rw', q4 hn⟩
variable {K : PySem.W.Frag} {T : XT} {W : WX} {ta tb : TE} {a b : EvE}
theorem good_tsetd (ha : GoodE K T W ta a) (hb : GoodE K T W tb b) : GoodE K T W (tSetdT ta tb (tLst tNil)) (eTSetd a b) := by
  intro g B ρ st σ H rel
  unfold eTSetd tSetdT
  refine Res.bind (U := ta σ H) (U2 := fun x H1 (Q : VK) => ∃ a, x = .ref a ∧ IsD H1 a ∧ tb σ H1 fun y H2 => tLst tNil σ H2 fun z H3 => ∃ (kvs : List (List Key × V)) (k : List Key) (b : Addr), H3 a = some (.dT kvs) ∧ y = .ref b ∧ H3 b = some (.tup (k.map kV)) ∧ kvs.length < sizeLine ∧
    (∀ v, valV kvs k = some v → Q v H3) ∧ (valV kvs k = none → Q z (upd H3 a (.dT (putK kvs k z))))) (O := oD K) (ha.share rel) fun v s1 B1 ρ1 x H1 _ m1 r1 o1 => ?_
  have o1 : Rep K B1 ρ1 x v.d := o1
  split
  · rename_i n e1
    rw [e1] at o1
    cases o1 with
    | @cell ad _ hn =>
      split
      · rename_i kvs0 hc0
        obtain ⟨u0, hu0, kws0, e30, _⟩ := r1.cell n _ _ hc0 hn
        subst e30
        refine Res.conv (U := fun Q => tb σ H1 fun y H2 => tLst tNil σ H2 fun z H3 => ∃ (kvs : List (List Key × V)) (k : List Key) (b : Addr), H3 ad = some (.dT kvs) ∧ y = .ref b ∧ H3 b = some (.tup (k.map kV)) ∧ kvs.length < sizeLine ∧
          (∀ v, valV kvs k = some v → Q v H3) ∧ (valV kvs k = none → Q z (upd H3 ad (.dT (putK kvs k z))))) ?_ fun Q z => ⟨ad, rfl, .inr ⟨kws0, .inl hu0⟩, z⟩
        refine Res.bind (U := tb σ H1) (U2 := fun y H2 (Q : VK) => tLst tNil σ H2 fun z H3 => ∃ (kvs : List (List Key × V)) (k : List Key) (b : Addr), H3 ad = some (.dT kvs) ∧ y = .ref b ∧ H3 b = some (.tup (k.map kV)) ∧ kvs.length < sizeLine ∧
          (∀ v, valV kvs k = some v → Q v H3) ∧ (valV kvs k = none → Q z (upd H3 ad (.dT (putK kvs k z))))) (O := oD K) (hb.share r1) fun w s2 B2 ρ2 y H2 _ m2 r2 o2 => ?_
        have o2 : Rep K B2 ρ2 y w.d := o2
        have hn2 := m2.r _ _ hn
        split
        · rename_i k kvs e2 hc
          obtain ⟨u, hu, kws, e3, hp⟩ := r2.cell n _ _ hc hn2
          subst e3
          obtain ⟨q, e4, e5⟩ := kt_rep o2 e2
          have fresh : ∀ p, H2 p = none → upd H2 p (.lst []) ad = some (.dT kws) ∧ upd H2 p (.lst []) q = some (.tup (k.map kV)) := fun p hp' =>
            ⟨by rw [upd_ne (fun z => by rw [z, hp'] at hu; cases hu)]; exact hu, by rw [upd_ne (fun z => by have := r2.sub _ _ e5; rw [z, hp'] at this; cases this)]; exact r2.sub _ _ e5⟩
          split
          · rename_i hlen
            have hlen2 : kws.length < sizeLine := many_lt (by rw [Paired.length hp]; exact hlen)
            have nil0 : ([] : List V).length ≤ sizeLine := Nat.zero_le _
            split
            · rename_i d hd
              obtain ⟨z, hz1, hz2⟩ := kv_get hp hd
              intro Q hQ
              refine ⟨nil0, fun p hp' => ⟨kws, k, q, (fresh p hp').1, e4, (fresh p hp').2, hlen2, fun v hv => ?_, fun hno => ?_⟩⟩
              · rw [hz1] at hv
                cases hv
                exact hQ B2 ρ2 z _ (Mono.refl _ _) (r2.put (r2.lone hp')) hz2
              · rw [hz1] at hno
                cases hno
            · rename_i hd
              intro Q hQ
              refine ⟨nil0, fun p hp' => ⟨kws, k, q, (fresh p hp').1, e4, (fresh p hp').2, hlen2, fun v hv => ?_, fun hno => ?_⟩⟩
              · have := kv_get_none (k := k) hp
                rw [hv, hd] at this
                cases this
              · have lo := r2.lone hp'
                have r3 := (r2.put (o := .lst []) lo).newCell (c := .lst []) ⟨lo.nb, lo.np, lo.nc, lo.ns⟩ upd_same ⟨[], rfl, .nil⟩
                have at_p : (ρ2 ++ [p])[s2.om.length]? = some p := by rw [← r2.cl]; exact get_push _ _
                have old : Pre ρ2 (ρ2 ++ [p]) := Pre.push _ _
                have rp : Rep K B2 (ρ2 ++ [p]) (.ref p) (.cell s2.om.length) := .cell at_p
                have r4 := r3.setCell (c := .dT (kvPut kvs k (.cell s2.om.length))) (o := .dT (putK kws k (.ref p))) (old _ _ hn2) ⟨_, rfl, kv_put rp (Paired.mapP hp fun _ _ z => ⟨z.1, z.2.mono (Sub.refl _) old⟩)⟩
                exact hQ B2 (ρ2 ++ [p]) (.ref p) _ ⟨Sub.refl _, old⟩ r4 rp
          · trivial
        · trivial
      · trivial
  · trivial
end
end Mini

set_option Elab.async false
set_option linter.all false
set_option maxRecDepth 100000
set_option maxHeartbeats 1000000
/-! PyX9: xs[i] = e. -/
namespace Mini
open PySem PySem.Spec PyProof.Rows L2
section
variable {X : Cx} {K : PySem.W.Frag} {T : XT} {W : WX} {tb tc : TE} {b c : EvE}
theorem good_ixput {j : Nat} (hb : GoodE K T W tb b) (hc : GoodE K T W tc c) : GoodS K T W (tAsg tc (gSub (tVar j) tb rSetL)) (sIxPut j b c) := by
  intro g B ρ st σ H D rel
  unfold sIxPut tAsg gSub
  refine EndS.bind (U := tc σ H) (U2 := fun v H0 => tVar j σ H0 fun o H1 => tb σ H1 fun i H2 => rSetL o i v H2 fun H3 => D.nx σ H3) (hc.share rel) fun v st1 B1 ρ1 xv H1 _ m1 r1 o1 => ?_
  have o1 : Rep K B1 ρ1 xv v.d := o1
  split
  · rename_i xs0 e0
    obtain ⟨p, vs0, h1, h2, h3⟩ := r1.ownH e0
    have z : EndS K T W g B1 ρ1 D ((b st1).thenS fun y s2 => (match y.d, s2.env[j]? with
      | .int i, some (some (.ow xs)) => (match ixNat xs.length i with
        | some k => O.nx { s2 with env := s2.env.set j (some (.ow (xs.set k v.d))) }
        | none => .no)
      | _, _ => .no)) (tb σ H1 fun i H2 => rSetL (.ref p) i xv H2 fun H3 => D.nx σ H3) := by
      refine EndS.bind (U := tb σ H1) (U2 := fun i H2 => rSetL (.ref p) i xv H2 fun H3 => D.nx σ H3) (hb.share r1) fun y st2 B2 ρ2 yv H2 _ m2 r2 o2 => ?_
      have o2 : Rep K B2 ρ2 yv y.d := o2
      split
      · rename_i i xs ei e4
        rw [ei] at o2
        cases o2
        obtain ⟨p', vs, h4, h5, h6⟩ := r2.ownH e4
        rw [h1] at h4
        cases h4
        split
        · rename_i k hk
          have lo := r2.takeOut e4 h1
          have hi : j < st2.env.length := (List.getElem?_eq_some_iff.mp e4).1
          have r3 := ((r2.forget (i := j)).put (o := .lst (vs.set k xv)) lo).backIn hi h1 lo upd_same (Reps.set k (o1.up m2) h6)
          exact fun w => ⟨p, vs, i, k, rfl, rfl, h5, by rw [h6.length]; exact hk, w B2 ρ2 σ _ (Mono.refl _ _) r3⟩
        · trivial
      · trivial
    exact EndS.of fun w => ⟨_, h1, z.to w⟩
  · trivial
end
end Mini

set_option Elab.async false
set_option linter.all false
set_option maxRecDepth 100000
set_option maxHeartbeats 1000000
/-! PyX10: {k: v}, k a tuple. -/
namespace Mini
open PySem PySem.Spec PyProof.Rows L2
/-- the reading; the new dict stands empty while the pair is made -/
def tDispT (tk tv : TE) : TE := fun σ H Q => ∀ p, H p = none → tk σ (upd H p (.dT [])) fun x H1 => tv σ H1 fun y H2 => H2 p = some (.dT []) ∧ ∃ (ks : List Key) (b : Addr), x = .ref b ∧ H2 b = some (.tup (ks.map kV)) ∧ Q (.ref p) (upd H2 p (.dT (putK [] ks y)))
section
variable {X : Cx} {k v : Expr} {tk tv : TE} {pos : Pos}
theorem pe_dispT (hu : X.A.units + 1 < cLine) (hk : PE X k tk) (hv : PE X v tv) (hroom : (tupleKind (mixKind X.prog X.w)).room X.A) : PE X (.Dict [some k] [v] pos) (tDispT tk tv) := by
  constructor
  intro pins s σ H Q I q
  have hn := I.hok.fresh (Nat.le_refl s.heap.objs.size)
  have I1 := I.laid (a := s.heap.objs.size) (o := .dT []) (h' := s.heap.push { cls := .type "dict", data := .dict #[] }) (t' := s.toks) (fun _ _ q => Heap.get?_push_of_some _ q) (Nat.le_refl _) (dt_empty s.heap I.big)
  have n1 : (pairTrees [some k] [v] X.env pos).length = 1 := pairTrees_length [some k] [v] X.env pos rfl rfl
  have n0 : pairTrees [some k] [v] X.env pos ≠ [] := fun z => by rw [z] at n1; cases n1
  rw [arm_eval_Dict, zip_pairTrees [some k] [v] X.env pos rfl rfl, dictDisplay_pairs _ n0 (by rw [n1]; decide)]
  refine wpAny_bind (wpAny_standAt (wpAny_bind (wpAny_subDictH (knd := tupleKind (mixKind X.prog X.w)) (Q := fun d s' => wpAny (model X.prog X.w) X.A (pure (Value.ref d)) (EP X pins σ Q) X.xe s') hroom (by rw [n1]; decide) ?_)))
  refine pairTrees_cons_walk (thn (hk.run pins _ σ _ _ I1 (q _ hn)) fun u s1 g1 => ?_)
  obtain ⟨x, H1, I2, rx, q1⟩ := g1
  refine thn (hv.run pins s1 σ H1 _ I2 q1) fun u2 s2 g2 => ?_
  obtain ⟨y, H2, I3, ry, e, ks, b, rfl, eb, q2⟩ := g2
  obtain rfl : u = Value.ref b := rx
  refine pairTrees_nil_walk ?_
  obtain ⟨len, low, xs, rel, dd⟩ := dt_of I3.hok e
  cases rel
  refine ⟨[(ks, b, u2)], ⟨rfl, rfl, key_of I3.hok eb, trivial⟩, dd, fun h' tk' dd' hs => ?_⟩
  have rel2 : KT (upd H2 s.heap.objs.size (.dT (putK [] ks y))) (putK [] ks y) [(ks, b, u2)] := by
    refine .cons ⟨rfl, ?_, ry⟩ .nil
    rw [upd_ne (ne_of eb e (fun z => nomatch z))]
    exact eb
  obtain ⟨o, es, ep, ho, x2, x3, x4, x5, x6⟩ := dd'
  have one : (putK [] ks y).length ≤ sizeLine := by rw [sizeLine_eq]; show 1 ≤ 16777216; decide
  have new : ObjOk X.prog X.w (upd H2 s.heap.objs.size (.dT (putK [] ks y))) h' s.heap.objs.size (.dT (putK [] ks y)) := ⟨one, low, _, rel2, o, es, ep, ho, x2, x3, x4, x6⟩
  exact wpAny_pure ⟨.ref s.heap.objs.size, _, d_write I3 (by rw [e]; exact True.intro) hs ⟨o, ho⟩ new, rfl, q2⟩
variable {K : PySem.W.Frag} {T : XT} {W : WX} {ta tb : TE} {a b : EvE}
theorem good_dispT (ha : GoodE K T W ta a) (hb : GoodE K T W tb b) : GoodE K T W (tDispT ta tb) (eDispT a b) := by
  intro g B ρ st σ H rel
  have start : ∀ p, H p = none → Rel K (g.guard p (.dT [])) B ρ st σ (upd H p (.dT [])) := fun p hp => (rel.put (rel.lone hp)).guard ⟨rel.noB hp, rel.noP hp, rel.noC hp, (rel.lone hp).ns⟩ upd_same
  have body : ∀ p, H p = none → Res K T W (g.guard p (.dT [])) B ρ σ (fun Q : V × V → Hp → Prop => ta σ (upd H p (.dT [])) fun x H1 => tb σ H1 fun y H2 => Q (x, y) H2)
      (fun z B' ρ' _ _ xy => Rep K B' ρ' xy.1 z.1 ∧ Rep K B' ρ' xy.2 z.2) ((a st).bind fun x s1 => (b s1).bind fun y s2 => R.ok (x.d, y.d) s2) := fun p hp => by
    refine Res.bind (U := ta σ (upd H p (.dT []))) (U2 := fun x H1 (Q : V × V → Hp → Prop) => tb σ H1 fun y H2 => Q (x, y) H2) (O := oD K) (ha.share (start p hp)) fun v s1 B1 ρ1 x H1 _ m1 r1 o1 => ?_
    refine Res.bind (U := tb σ H1) (U2 := fun y H2 (Q : V × V → Hp → Prop) => Q (x, y) H2) (O := oD K) (hb.share r1) fun w s2 B2 ρ2 y H2 _ m2 r2 o2 => ?_
    exact Res.now (x := (x, y)) (fun Q q => q) (Mono.refl _ _) r2 ⟨o1.up m2, o2⟩
  have same : eDispT a b st = ((a st).bind fun x s1 => (b s1).bind fun y s2 => R.ok (x.d, y.d) s2).bind fun z s2 => match z.1.kt? with
      | some k => .ok (.sh (.cell s2.om.length)) { s2 with om := s2.om ++ [Cell.dT [(k, z.2)]] }
      | none => .no := by
    unfold eDispT
    cases a st with
    | no => rfl
    | ex x s => rfl
    | ok x s1 =>
      simp only [R.bind_ok]
      cases b s1 <;> rfl
  rw [same]
  cases e : ((a st).bind fun x s1 => (b s1).bind fun y s2 => R.ok (x.d, y.d) s2) with
  | no => trivial
  | ex xc s1 =>
    intro Q hQ p hp
    have z := body p hp
    rw [e] at z
    refine z (fun xy H2 => H2 p = some (.dT []) ∧ ∃ (ks : List Key) (b : Addr), xy.1 = .ref b ∧ H2 b = some (.tup (ks.map kV)) ∧ Q (.ref p) (upd H2 p (.dT (putK [] ks xy.2)))) fun B' ρ' cls d H' m r o => ?_
    obtain ⟨r', _, _⟩ := r.unguard ((rel.lone hp).no0 rel) (rel.noP hp) fun _ => dt_code
    exact hQ B' ρ' cls d H' m r' o
  | ok z s2 =>
    obtain ⟨zx, zy⟩ := z
    simp only [R.bind_ok]
    split
    · rename_i k hk
      intro Q hQ p hp
      have z := body p hp
      rw [e] at z
      refine z (fun xy H2 => H2 p = some (.dT []) ∧ ∃ (ks : List Key) (b : Addr), xy.1 = .ref b ∧ H2 b = some (.tup (ks.map kV)) ∧ Q (.ref p) (upd H2 p (.dT (putK [] ks xy.2)))) fun B' ρ' xy H' m r o => ?_
      obtain ⟨r', h1, lo⟩ := r.unguard ((rel.lone hp).no0 rel) (rel.noP hp) fun _ => dt_code
      obtain ⟨q, e4, e5⟩ := kt_rep o.1 hk
      refine ⟨h1, k, q, e4, r'.sub _ _ e5, ?_⟩
      have r2 := (r'.put (o := .dT (putK [] k xy.2)) lo).newCell (c := .dT [(k, zy)]) lo upd_same ⟨_, rfl, .cons ⟨rfl, o.2⟩ .nil⟩
      refine hQ B' (ρ' ++ [p]) (.ref p) _ ⟨m.b, m.r.trans (Pre.push _ _)⟩ r2 (.cell ?_)
      rw [← r'.cl]
      exact get_push _ _
    · trivial
end
end Mini

set_option Elab.async false
set_option linter.all false
set_option maxRecDepth 100000
set_option maxHeartbeats 1000000
/-! PyX11: a walk along a list that is a cell. -/
namespace Mini
open PySem PySem.Spec PyProof.Rows L2
section
variable {X : Cx} {K : PySem.W.Frag} {T : XT} {W : WX} {ta : TE} {a : EvE} {tg : TG} {gv : EvG} {vs : List Nat} {tb : TS} {eb : EvS}
theorem good_forC {fu : Nat} (ha : GoodE K T W ta a) (hg : GoodG K tg gv vs) (hb : GoodS K T W tb eb) : GoodS K T W (tFor (iList K ta) tg tb) (sForC fu a gv eb) := by
  intro g B ρ st σ H D rel
  have plain := good_for (good_iseq ha) hg hb g B ρ st σ H D rel
  have z := ha.share rel
  unfold sFor iSeq at plain
  unfold sForC
  cases e : a st with
  | no => trivial
  | ex x s => rw [e] at plain; exact plain
  | ok v s1 =>
    rw [e] at plain z
    simp only [R.bind_ok, R.thenS_ok] at plain ⊢
    cases ed : v.d with
    | lst xs => rw [ed] at plain; exact plain
    | cell n =>
      refine EndS.of fun w => ?_
      refine z _ fun B1 ρ1 x H1 m1 r1 o1 => ?_
      have o1 : Rep K B1 ρ1 x v.d := o1
      rw [ed] at o1
      cases o1 with
      | @cell ad _ hn =>
        dsimp only at w
        generalize hr : forCell gv eb n 0 fu s1 = rr at w
        have isL : ∃ ys, SqL K H1 ad ys := by
          cases fu with
          | zero => rw [← hr] at w; exact w.elim
          | succ fu =>
            unfold forCell at hr
            split at hr
            · rename_i ys hc
              obtain ⟨u, hu, vs', e2, _⟩ := r1.cell n _ _ hc hn
              subst e2
              exact ⟨_, SqL.of hu⟩
            · rw [← hr] at w; exact w.elim
        refine ⟨ad, rfl, isL, fun i k σ' H' => ∃ B2 ρ2 st2, Mono B1 ρ1 B2 ρ2 ∧ Rel K g B2 ρ2 st2 σ' H' ∧ forCell gv eb n i k st2 = rr, ⟨fu, B1, ρ1, s1, Mono.refl _ _, r1, hr⟩, ?_⟩
        rintro i k σ2 H2 ⟨B2, ρ2, st2, m2, r2, go⟩
        cases k with
        | zero => rw [← go] at w; exact w.elim
        | succ k =>
          unfold forCell at go
          have hn2 := m2.r _ _ hn
          cases hc : st2.om[n]? with
          | none => rw [hc] at go; rw [← go] at w; exact w.elim
          | some c =>
            rw [hc] at go
            cases c with
            | dK _ => rw [← go] at w; exact w.elim
            | dT _ => rw [← go] at w; exact w.elim
            | tab _ _ => rw [← go] at w; exact w.elim
            | lst ys =>
              obtain ⟨u, hu, ws, e2, hp⟩ := r2.cell n _ _ hc hn2
              subst e2
              dsimp only at go
              cases hy : ys[i]? with
              | none =>
                rw [hy] at go
                dsimp only at go
                refine .inl ⟨⟨ws, SqL.of hu, ?_⟩, ?_⟩
                · rw [hp.length]
                  exact List.getElem?_eq_none_iff.mp hy
                · rw [← go] at w
                  exact w B2 ρ2 σ2 H2 (m1.trans m2) r2
              | some d =>
                rw [hy] at go
                dsimp only at go
                obtain ⟨y, hy1, hy2⟩ := hp.get hy
                refine .inr ⟨⟨ws, y, SqL.of hu, hy1⟩, fun σ' H' => ∃ B3 ρ3 st3, Mono B1 ρ1 B3 ρ3 ∧ Rel K g B3 ρ3 st3 σ' H' ∧ forCell gv eb n (i + 1) k st3 = rr, fun σ' H' nx => ⟨k, Nat.lt_succ_self _, nx⟩, fun x H' hyl => ?_⟩
                obtain ⟨e3, e4⟩ := hyl
                subst e3
                have e5 := e4 ws (SqL.of hu)
                rw [hy1] at e5
                cases e5
                cases eg : gv d st2 with
                | none =>
                  rw [eg] at go
                  rw [← go] at w
                  exact w.elim
                | some s4 =>
                  rw [eg] at go
                  dsimp only at go
                  refine hg g B2 ρ2 st2 σ2 _ _ d s4 r2 hy2 eg _ fun σ4 r4 _ => ?_
                  refine (hb g B2 ρ2 s4 σ4 _ _ r4).to ?_
                  have go : (match eb s4 with | .nx s2 => forCell gv eb n (i + 1) k s2 | .ct s2 => forCell gv eb n (i + 1) k s2 | .bk s2 => .nx s2 | .rt v s2 => .rt v s2 | .ex x s2 => .ex x s2 | .no => .no) = rr := go
                  rw [← go] at w
                  have m3 := m2
                  cases e : eb s4 with
                  | no => rw [e] at w; exact w.elim
                  | nx s5 =>
                    rw [e] at go
                    exact fun B' ρ' σ' H' m r => ⟨B', ρ', s5, m3.trans m, r, go⟩
                  | ct s5 =>
                    rw [e] at go
                    exact fun B' ρ' σ' H' m r => ⟨B', ρ', s5, m3.trans m, r, go⟩
                  | bk s5 =>
                    rw [e] at w
                    exact fun B' ρ' σ' H' m r => w B' ρ' σ' H' (m1.trans (m3.trans m)) r
                  | rt v s5 =>
                    rw [e] at w
                    exact fun B' ρ' σ' y H' m r => w B' ρ' σ' y H' (m1.trans (m3.trans m)) r
                  | ex x s5 =>
                    rw [e] at w
                    exact fun B' ρ' σ' cls d H' m r => w B' ρ' σ' cls d H' (m1.trans (m3.trans m)) r
    | _ => trivial
end
end Mini

set_option Elab.async false
set_option linter.all false
set_option maxRecDepth 100000
set_option maxHeartbeats 1000000
/-! PyX12: d.get(k, c), k a tuple; the rules of PyX6 to PyX11 over syntax. -/
namespace Mini
open PySem PySem.Spec PyProof.Rows L2
section
variable {X : Cx} {K : PySem.W.Frag} {T : XT} {W : WX} {a b c e f o : Expr} {ta tb tc te : TE} {va vb vc ve : EvE} {x : Str} {p p1 p2 pos pos' apos cpos : Pos}
theorem good_tget2 (ha : GoodE K T W ta va) (hb : GoodE K T W tb vb) (hc : GoodE K T W tc vc) : GoodE K T W (tDGet2 ta tb tc) (eTGet2 va vb vc) := by
  intro g B ρ st σ H rel
  unfold eTGet2 tDGet2
  refine Res.bind (U := ta σ H) (U2 := fun x H1 (Q : VK) => ∃ a, x = .ref a ∧ IsD H1 a ∧ tb σ H1 fun y H2 => tc σ H2 fun z H3 => ∃ o, DGet H3 a y o ∧ Q (o.getD z) H3) (O := oD K) (ha.share rel) fun v s1 B1 ρ1 x H1 _ m1 r1 o1 => ?_
  have o1 : Rep K B1 ρ1 x v.d := o1
  split
  · rename_i n e1
    rw [e1] at o1
    cases o1 with
    | @cell ad _ hn =>
      split
      · rename_i kvs0 hc0
        obtain ⟨u0, hu0, kws0, e30, _⟩ := r1.cell n _ _ hc0 hn
        subst e30
        refine Res.conv (U := fun Q => tb σ H1 fun y H2 => tc σ H2 fun z H3 => ∃ o, DGet H3 ad y o ∧ Q (o.getD z) H3) ?_ fun Q z => ⟨ad, rfl, .inr ⟨kws0, .inl hu0⟩, z⟩
        refine Res.bind (U := tb σ H1) (U2 := fun y H2 (Q : VK) => tc σ H2 fun z H3 => ∃ o, DGet H3 ad y o ∧ Q (o.getD z) H3) (O := oD K) (hb.share r1) fun w s2 B2 ρ2 y H2 _ m2 r2 o2 => ?_
        refine Res.bind (U := tc σ H2) (U2 := fun z H3 (Q : VK) => ∃ o, DGet H3 ad y o ∧ Q (o.getD z) H3) (O := oD K) (hc.share r2) fun z s3 B3 ρ3 zv H3 _ m3 r3 o3 => ?_
        have o3 : Rep K B3 ρ3 zv z.d := o3
        have o2 : Rep K B3 ρ3 y w.d := Rep.up o2 m3
        have hn3 := m3.r _ _ (m2.r _ _ hn)
        split
        · rename_i k kvs e2 hcl
          obtain ⟨u, hu, kws, e3, hp⟩ := r3.cell n _ _ hcl hn3
          subst e3
          obtain ⟨q, e4, e5⟩ := kt_rep o2 e2
          have get : DGet H3 ad y (valV kws k) := by
            rw [e4]
            exact DGet.t hu (r3.sub _ _ e5)
          cases hd : kvGet kvs k with
          | some d =>
            obtain ⟨y', hz1, hz2⟩ := kv_get hp hd
            exact Res.now (x := y') (fun Q q => ⟨_, get, by rw [hz1]; exact q⟩) (Mono.refl _ _) r3 hz2
          | none =>
            have no : valV kws k = none := by
              have := kv_get_none (k := k) hp
              rw [hd] at this
              cases ev : valV kws k with
              | none => rfl
              | some _ => rw [ev] at this; cases this
            exact Res.now (x := zv) (fun Q q => ⟨_, get, by rw [no]; exact q⟩) (Mono.refl _ _) r3 o3
        · trivial
      · trivial
  · trivial
/-! over syntax -/
theorem s_in (hu : X.A.units + 65 < cLine) (ha : SE X K T W a ta va) (hb : SE X K T W b tb vb) (hm : behindInMarks .In b = false := by rfl) (hK : X.K = K := by rfl) : SE X K T W (.Compare a [.In] [b] pos) (tOp (rInD K) ta tb) (eOp oIn va vb) := by
  subst hK
  exact ⟨pe_cmpR (op_inD hu) ha.pe hb.pe hm, good_op opG_in ha.good hb.good⟩
theorem s_notIn (hu : X.A.units + 65 < cLine) (ha : SE X K T W a ta va) (hb : SE X K T W b tb vb) (hm : behindInMarks .NotIn b = false := by rfl) (hK : X.K = K := by rfl) : SE X K T W (.Compare a [.NotIn] [b] pos) (tOp (rNotInD K) ta tb) (eOp oNotIn va vb) := by
  subst hK
  exact ⟨pe_cmpR (op_notInD hu) ha.pe hb.pe hm, good_op opG_notIn ha.good hb.good⟩
theorem s_tget (hu : X.A.units + 1 < cLine) (ha : SE X K T W a ta va) (hb : SE X K T W b tb vb) (hs : NoSl b := by exact fun _ _ => rfl) (hK : X.K = K := by rfl) : SE X K T W (.Subscript a b pos) (tDGet ta tb) (eTGet va vb) := by
  subst hK
  exact ⟨pe_dget hu ha.pe hb.pe hs, good_tget ha.good hb.good⟩
theorem s_tnew (hK : X.K = K := by rfl) : SE X K T W (.Dict [] [] pos) tDNewT eTNew := by
  subst hK
  exact ⟨pe_dnewT, good_tnew⟩
theorem s_dispT (hu : X.A.units + 1 < cLine) (ha : SE X K T W a ta va) (hb : SE X K T W b tb vb) (hK : X.K = K := by rfl) : SE X K T W (.Dict [some a] [b] pos) (tDispT ta tb) (eDispT va vb) := by
  subst hK
  exact ⟨pe_dispT hu ha.pe hb.pe (show X.A.units < cLine from Nat.lt_of_succ_lt hu), good_dispT ha.good hb.good⟩
theorem s_tsetd (hu : X.A.units + 1 < cLine) (ha : SE X K T W o ta va) (hb : SE X K T W e tb vb) (m : M2 X o "setdefault" apos e (.List [] p) cpos) (hK : X.K = K := by rfl) : SE X K T W (.Call (.Attribute o "setdefault" apos) [e, .List [] p] [] cpos) (tSetdT ta tb (tLst tNil)) (eTSetd va vb) := by
  subst hK
  exact ⟨pe_setdT hu ha.pe hb.pe (pe_lst pa_nil) m, good_tsetd ha.good hb.good⟩
theorem s_tget2 (hu : X.A.units + 1 < cLine) (ha : SE X K T W o ta va) (hb : SE X K T W e tb vb) (hc : SE X K T W f tc vc) (m : M2 X o "get" apos e f cpos) (hK : X.K = K := by rfl) : SE X K T W (.Call (.Attribute o "get" apos) [e, f] [] cpos) (tDGet2 ta tb tc) (eTGet2 va vb vc) := by
  subst hK
  exact ⟨pe_dget2 hu ha.pe hb.pe hc.pe m, good_tget2 ha.good hb.good hc.good⟩
theorem ss_tput (hu : X.A.units + 1 < cLine) (ha : SE X K T W o ta va) (hb : SE X K T W e tb vb) (hc : SE X K T W f tc vc) (hs : swapsWith f (some (.Subscript o e pos')) pos.line X.env = pure false := by rfl) (hK : X.K = K := by rfl) : SS X K T W (.Assign [.Subscript o e pos'] f pos) (L2.sDPut ta tb tc) (sTPut va vb vc) := by
  subst hK
  exact ⟨ps_dput hu ha.pe hb.pe hc.pe hs, good_tput ha.good hb.good hc.good⟩
end
end Mini

set_option Elab.async false
set_option linter.all false
set_option maxRecDepth 100000
set_option maxHeartbeats 1000000
/-! PyX13: further rules over syntax. -/
namespace Mini
open PySem PySem.Spec PyProof.Rows L2
section
variable {X : Cx} {K : PySem.W.Frag} {T : XT} {W : WX} {a b c e f o tg iter : Expr} {ta tb tc te : TE} {va vb vc ve : EvE} {x : Str} {p p1 p2 pos pos' : Pos} {lo hi : Option Expr} {tl th : TO} {el eh : EvO} {sts : List Stmt} {s1 : TS} {e1 : EvS} {g : TG} {eg : EvG} {vs : List Nat}
structure SO (X : Cx) (K : PySem.W.Frag) (T : XT) (W : WX) (e : Option Expr) (t : TO) (v : EvO) : Prop where
  pe : PO X e t
  good : GoodO K T W t v
theorem so_none : SO X K T W none tNoPart pNone := ⟨po_none, good_pnone⟩
theorem so_some (h : SE X K T W a ta va) : SO X K T W (some a) (tPart ta) (pSome va) := ⟨po_some h.pe, good_psome h.good⟩
theorem s_slL (ha : SE X K T W a ta va) (hl : SO X K T W lo tl el) (hh : SO X K T W hi th eh) (hK : X.K = K := by rfl) : SE X K T W (.Subscript a (.Slice lo hi none p) pos) (tSl (rSlL K) ta tl th) (eSlL va el eh) := by
  subst hK
  exact ⟨pe_slice sl_list ha.pe hl.pe hh.pe, good_slL ha.good hl.good hh.good⟩
theorem ss_ixput (j : Nat) (hN : X.N[j]? = some x := by rfl) (hb : SE X K T W b tb vb) (hc : SE X K T W c tc vc) (hv : Vis X.env.scope x := by first | exact Or.inl rfl | exact Or.inr (Or.inl rfl) | exact Or.inr (Or.inr rfl)) (hd : (x == ("__debug__" : Str)) = false := by decide)
    (hcd : (x == ("__classdict__" : Str)) = false := by decide)
    (hs : swapsWithSole [.Subscript (.Name x p) b pos'] c pos.line X.env = pure false := by rfl) (hw : swappedStores [.Subscript (.Name x p) b pos'] c X.env = pure none := by rfl)
    (h1 : (assignEach [.Subscript (.Name x p) b pos'] X.env).map (·.2) = [assign (.Subscript (.Name x p) b pos') X.env] := by rfl)
    (hA : ∀ v, assign (.Subscript (.Name x p) b pos') X.env v = (do
      let ov ← holding [v] (eval (.Name x p) X.env)
      let iv ← holding [v, ov] (eval b X.env)
      standAt pos'
      holding [v, ov, iv] (setItem ov iv v)
      release [v, ov, iv] []) := by intro _; rfl) (hK : X.K = K := by rfl) :
    SS X K T W (.Assign [.Subscript (.Name x p) b pos'] c pos) (tAsg tc (gSub (tVar j) tb rSetL)) (sIxPut j vb vc) := by
  subst hK
  exact ⟨ps_asg hc.pe (pg_sub (pe_var hN hv hd hcd) hb.pe set_list hA) hs hw h1, good_ixput hb.good hc.good⟩
theorem ss_forC (n : Nat) (hp : PassesOwn (model X.prog X.w) X.A X.env X.xe) (hc : X.calm = true) (ha : SE X K T W iter ta va) (hg : SG X K tg g eg vs) (hb : SB X K T W sts s1 e1) (hs : ∀ x, foldedSetIterable iter X.env x = pure x := by intro _; rfl) (hK : X.K = K := by rfl) :
    SS X K T W (.For tg iter sts [] pos) (tFor (iList K ta) g s1) (sForC n va eg e1) := by
  subst hK
  exact ⟨ps_for hp hc (pi_list ha.pe) hg.pe hb.pe hs, good_forC ha.good hg.good hb.good⟩
theorem s_tin (hu : X.A.units + 1 < cLine) (hb : SE X K T W b tb vb) (ha : SE X K T W a ta va) (hm : behindInMarks .In a = false := by rfl) (hK : X.K = K := by rfl) : SE X K T W (.Compare b [.In] [a] pos) (tDIn tb ta) (eTIn false vb va) := by
  subst hK
  exact ⟨pe_cmp (pc_din hu hb.pe ha.pe) hm, good_tin (neg := false) rfl hb.good ha.good⟩
theorem s_tnotIn (hu : X.A.units + 1 < cLine) (hb : SE X K T W b tb vb) (ha : SE X K T W a ta va) (hm : behindInMarks .NotIn a = false := by rfl) (hK : X.K = K := by rfl) : SE X K T W (.Compare b [.NotIn] [a] pos) (tDNotIn tb ta) (eTIn true vb va) := by
  subst hK
  exact ⟨pe_cmp (pc_dnotin hu hb.pe ha.pe) hm, good_tin (neg := true) rfl hb.good ha.good⟩
theorem st_tin (hu : X.A.units + 1 < cLine) (hb : SE X K T W b tb vb) (ha : SE X K T W a ta va) (hm : behindInMarks .In a = false := by rfl) (hK : X.K = K := by rfl) : ST X K T W (.Compare b [.In] [a] pos) (tTest (tDIn tb ta)) (tBl (eTIn false vb va)) := by
  subst hK
  exact ⟨pt_cmp (pc_din hu hb.pe ha.pe) hm, good_bltest (good_tin (neg := false) rfl hb.good ha.good)⟩
theorem st_tnotIn (hu : X.A.units + 1 < cLine) (hb : SE X K T W b tb vb) (ha : SE X K T W a ta va) (hm : behindInMarks .NotIn a = false := by rfl) (hK : X.K = K := by rfl) : ST X K T W (.Compare b [.NotIn] [a] pos) (tTest (tDNotIn tb ta)) (tBl (eTIn true vb va)) := by
  subst hK
  exact ⟨pt_cmp (pc_dnotin hu hb.pe ha.pe) hm, good_bltest (good_tin (neg := true) rfl hb.good ha.good)⟩
theorem st_in (hu : X.A.units + 65 < cLine) (ha : SE X K T W a ta va) (hb : SE X K T W b tb vb) (hm : behindInMarks .In b = false := by rfl) (hK : X.K = K := by rfl) : ST X K T W (.Compare a [.In] [b] pos) (tTest (tOp (rInD K) ta tb)) (tBl (eOp oIn va vb)) := by
  subst hK
  exact ⟨pt_cmpR (op_inD hu) ha.pe hb.pe hm, good_bltest (good_op opG_in ha.good hb.good)⟩
theorem st_notIn (hu : X.A.units + 65 < cLine) (ha : SE X K T W a ta va) (hb : SE X K T W b tb vb) (hm : behindInMarks .NotIn b = false := by rfl) (hK : X.K = K := by rfl) : ST X K T W (.Compare a [.NotIn] [b] pos) (tTest (tOp (rNotInD K) ta tb)) (tBl (eOp oNotIn va vb)) := by
  subst hK
  exact ⟨pt_cmpR (op_notInD hu) ha.pe hb.pe hm, good_bltest (good_op opG_notIn ha.good hb.good)⟩
end
end Mini

set_option Elab.async false
set_option linter.all false
set_option maxRecDepth 100000
set_option maxHeartbeats 1000000
/-! PyX14: the constant dict by its address; small lemmas for the printed derivations. -/
namespace Mini
open PySem PySem.Spec PyProof.Rows L2
structure GTabD (K : PySem.W.Frag) (w : World) (mg : Str → Option Value) (x : Str) (d : Addr) (tab : List (Str × Int)) : Prop where
  m : mg x = some (.ref d)
  h : ∀ z i, tab.lookup z = some i → KDct K w d z (.int i)
theorem s_gtabD {X : Cx} {K : PySem.W.Frag} {T : XT} {W : WX} {b : Expr} {tb : TE} {vb : EvE} {x : Str} {d : Addr} {p1 pos : Pos} {tab : List (Str × Int)} (G : GTabD K X.w X.mg x d tab) (hb : SE X K T W b tb vb) (hg : Gl X x := by rfl) (hdb : (x == ("__debug__" : Str)) = false := by decide)
    (hs : PlainIx b := by exact fun _ _ => rfl) (hK : X.K = K := by rfl) : SE X K T W (.Subscript (.Name x p1) b pos) (tGTab K X.w d tb) (eGTab tab vb) := by
  subst hK
  exact ⟨pe_ix ix_kdict (pe_glob hg G.m rfl hdb) hb.pe hs, good_gtab G.h hb.good⟩
theorem hu65 {A : Around} {k : Nat} (hr : Room k A) : A.units + 65 < cLine := by
  have := hr.un
  omega
theorem m2_ {X : Cx} {o e f : Expr} {m : Str} {apos cpos : Pos} (h1 : attributeBase o m X.env (eval o X.env) = eval o X.env := by rfl)
    (h2 : ((backTo cpos (starEach [e, f] X.env)).all (fun x => !x.1) && (backToKw cpos (keywordEach [] X.env)).all (fun x => x.1.isSome) && decide (([e, f] : List Expr).length + ([] : List Keyword).length + (if ([] : List Keyword).isEmpty then 0 else 1) < 30)) = true := by rfl)
    (h3 : (apos.endLine == cpos.line) = true := by rfl) (h4 : backTo cpos (starEach [e, f] X.env) = [(false, eval e X.env), (false, eval f X.env)] := by rfl) : M2 X o m apos e f cpos := ⟨h1, h2, h3, h4⟩
end Mini

set_option Elab.async false
set_option linter.all false
set_option maxRecDepth 100000
set_option maxHeartbeats 1000000
/-! PyX15: a def whose code object's address is known (it makes lambdas). -/
namespace Mini
open PySem PySem.Spec PyProof.Rows L2
/-- a def as it stands, its code object at c -/
structure TxtC (K : PySem.W.Frag) (mg : Str → Option Value) (x : Str) (st : Stmt) (ps : List Str) (c : Addr) : Prop where
  ex : ∃ (f : Addr) (oc : Value) (od : Option Addr) (kV doc pm : Value) (an : Option Addr) (ct : Value) (osl : Array (Option Value)),
    K.lookup f = some ⟨oc, od, .func (PySem.W.fnOf x x (defArgs st) (defBody st) (defScope st) .none kV doc pm an (.ref c) ct), osl⟩ ∧ PySem.W.codeIn K (.ref c) x = true ∧ PySem.W.keepIn K (.ref f) = true ∧ mg x = some (.ref f) ∧
    ∀ us : List Value, us.length = ps.length → bindArgs (PySem.W.fnOf x x (defArgs st) (defBody st) (defScope st) .none kV doc pm an (.ref c) ct) ⟨us, []⟩ = pure (ps.zip us)
theorem Def.ofC {P : Program} {w : World} {K : PySem.W.Frag} {mg : Str → Option Value} {base : Heap} {T : XT} {x : Str} {st : Stmt} {N ps : List Str} {k : Nat} {eb : EvS} {c : Addr} (D : TxtC K mg x st ps c) (S : FnScope N ps (defScope st))
    (h : ∀ (f : Addr) (A : Around) (outer : List Env) (s : Shared) (H : Hp) (E : XK), Room k (A.deeper (envOfC x (defScope st) s.heap.objs.size f (.ref c))) →
      ∃ t, SB (cxOf (L2.CX P w) P w K mg base N x (defScope st) f (.ref c) A outer s H E) K T (fun cls d _ H => E cls d H) (defBody st) t eb) : Def P w K mg base T (k + 1) x ps (runDef N.length eb) := by
  obtain ⟨f, oc, od, kV, doc, pm, an, ct, osl, lk, hcd, kp, hm, hb⟩ := D.ex
  refine ⟨f, _, ?_, hm, kp, hb, oc, od, osl, lk⟩
  exact fn_of lk hcd S (fun vs H Q E h => h.1) fun A outer s H vs Q E hr hsp => by
    obtain ⟨t, z⟩ := h f A outer s H E hr
    exact ⟨t, z.pe, body_ok z.good hsp⟩
end Mini

set_option Elab.async false
set_option linter.all false
set_option maxRecDepth 100000
/-! PyX16: what leaves a lambda's body is taken. -/
namespace Mini
open PySem PySem.Spec PyProof.Rows L2
theorem lam_tk {X : Cx} {A : Around} {outer : List Env} {s : Shared} {H : Hp} {E : XK} {scope : Scope} {f c' : Addr} : Takes (LamX.lamCx X A outer s H E scope f c') (fun cls d _ H => E cls d H) := takes_of (E := E) rfl rfl rfl rfl
end Mini

set_option Elab.async false
set_option linter.all false
set_option maxRecDepth 100000
/-! PyX17: the script and the tables alone. -/
namespace Mini
open PySem PySem.Spec PyProof.Rows L2
/-- all but tables -/
def noTbl (H : Hp) : Hp := fun a => match H a with
  | some (.tbl _) => none
  | o => o
theorem noTbl_of {H : Hp} {a : Addr} {o : HO} (h : H a = some o) (ho : ∀ ps, o ≠ .tbl ps) : noTbl H a = some o := by
  unfold noTbl
  rw [h]
  split
  · rename_i ps e
    exact absurd (Option.some.inj e) (ho ps)
  · rfl
theorem noTbl_sub {H : Hp} : Sub (noTbl H) H := fun a o e => by
  unfold noTbl at e
  split at e
  · cases e
  · exact e
theorem noTbl_tbl {H : Hp} (b : Addr) (ps : Array Value) : noTbl H b ≠ some (.tbl ps) := fun e => by
  have e2 := noTbl_sub _ _ e
  unfold noTbl at e
  rw [e2] at e
  cases e
theorem script_spT {K : PySem.W.Frag} {T : XT} {F : Fn} {H : Hp} {a : Addr} {ns : List Int} {Tb : List (Addr × Str)} (hT : ∀ p ∈ Tb, H p.1 = some (.tbl #[])) (nd : (Tb.map Prod.fst).Nodup) (hS : SqL K (noTbl H) a (ns.map V.int)) {om : List Cell}
    (hF : F [.scr ns] (Tb.map fun p => Cell.tab p.1 p.2) = .ok (.sh (.bl true)) om) : spD K T 1 F [.ref a] H (fun v _ => v = .bl true) (fun _ _ _ => False) := by
  have noT : ∀ p ∈ Tb, noTbl H p.1 = none := fun p hp => by unfold noTbl; rw [hT p hp]
  refine ⟨rfl, noTbl H, Tb.map Prod.fst, [.scr ns], Tb.map fun p => Cell.tab p.1 p.2, ⟨rfl, noTbl_sub, hide_sub (ρ := Tb.map Prod.fst) (H := H), fun a ha => .inl ha, nd, by simp, fun n c b h1 h2 => ?_, fun b hb => ?_, fun i v e => by simp at e, fun i ds p e _ => by simp at e, fun i j ds es p e _ _ _ => by simp at e, Sub.refl _, noTbl_tbl, hide_tbl (ρ := Tb.map Prod.fst) (H := H)⟩, .cons (.scr hS) .nil, ?_⟩
  · have h1 : (Tb.map fun p => Cell.tab p.1 p.2)[n]? = some c := h1
    rw [List.getElem?_map] at h1 h2
    cases e : Tb[n]? with
    | none => rw [e] at h1; cases h1
    | some p =>
      rw [e] at h1 h2
      cases h1
      cases h2
      refine ⟨_, hT p (List.mem_of_getElem? e), rfl, #[], rfl, True.intro, fun pos cv hc => ?_⟩
      simp [codeAmong] at hc
  · obtain ⟨p, hp, rfl⟩ := List.mem_map.mp hb
    exact ⟨noT p hp, hide_in hb⟩
  · rw [hF]
    intro B' ρ' x H' m r o
    have o : Rep K B' ρ' x (.bl true) := o
    cases o
    rfl
theorem sqL_noTbl {K : PySem.W.Frag} {H : Hp} {a : Addr} {xs : List V} (h : SqL K H a xs) : SqL K (noTbl H) a xs := by
  rcases h with (h | ⟨o, h⟩) | h
  · exact .inl (.inl (noTbl_of h fun ps z => by cases z))
  · exact .inl (.inr ⟨o, noTbl_of h fun ps z => by cases z⟩)
  · exact .inr h
end Mini

set_option Elab.async false
set_option linter.all false
set_option maxRecDepth 100000
set_option maxHeartbeats 1000000
/-! PyX18: what the head must say of own errors, of the constant dict, of the tables. -/
namespace Mini
open PySem PySem.Spec PyProof.Rows L2
theorem and4 {a b : Bool} (h : (a && b) = true) : a = true ∧ b = true := Bool.and_eq_true_iff.mp h
/-- the facts of a class of errors, in one -/
def excB (K : PySem.W.Frag) (C : Addr) (f : Str) : Bool :=
  decide (PySem.W.findIn K (.ref C) "__getattribute__" = some (some (.builtin "BaseException.__getattribute__"))) && (decide (PySem.W.findIn K (.ref C) "__getattr__" = some none) && (decide (PySem.W.subIn K (.ref C) (.type "BaseException") = some true) && (PySem.W.hasDictIn K C &&
  (decide (PySem.W.findIn K (.ref C) "__class__" = some (some (.builtin "object.__class__"))) && (decide (PySem.W.specialIn K (.builtin "object.__class__") "__get__" = some (some (.builtin "getset_descriptor.__get__"))) && (decide (PySem.W.takesIn K (.builtin "object.__class__") = some true) && (decide (PySem.W.mroIn K C (.type "object") = some true) &&
  (xfB K C && ((PySem.W.clsIn K C).isSome && decide (PySem.W.findIn K (.ref C) f = some none))))))))))
theorem excB_ok {K : PySem.W.Frag} {C : Addr} {f : Str} (h : excB K C f = true) : L2.ExcC K C ∧ XfC K C ∧ (PySem.W.clsIn K C).isSome = true ∧ PySem.W.findIn K (.ref C) f = some none := by
  obtain ⟨a1, h⟩ := and4 h
  obtain ⟨a2, h⟩ := and4 h
  obtain ⟨a3, h⟩ := and4 h
  obtain ⟨a4, h⟩ := and4 h
  obtain ⟨a5, h⟩ := and4 h
  obtain ⟨a6, h⟩ := and4 h
  obtain ⟨a7, h⟩ := and4 h
  obtain ⟨a8, h⟩ := and4 h
  obtain ⟨b1, h⟩ := and4 h
  obtain ⟨b2, b3⟩ := and4 h
  exact ⟨⟨of_decide_eq_true a1, of_decide_eq_true a2, of_decide_eq_true a3, a4, of_decide_eq_true a5, of_decide_eq_true a6, of_decide_eq_true a7, of_decide_eq_true a8⟩, xfB_ok b1, b2, of_decide_eq_true b3⟩
/-- a class of errors as the head writes it, its __init__ at fI -/
structure ErrAt (K : PySem.W.Frag) (w : World) (mg : Str → Option Value) (cn f : Str) (C : Addr) (qual : Str) (st : Stmt) : Prop where
  m : mg cn = some (.ref C)
  o : OexC K C
  x : excB K C f = true
  ini : ∃ (fI : Addr) (fd : FuncData), Fun K "__init__" qual st fI fd ∧ PySem.W.findIn K (.ref C) "__init__" = some (some (.ref fI)) ∧ PySem.W.typeIn K (.ref fI) = some (.type "function") ∧ ∀ us : List Value, us.length = 2 → bindArgs fd ⟨us, []⟩ = pure ([("self" : Str), f].zip us)
theorem errAt_mk {K : PySem.W.Frag} {w : World} {h : Heap} {mg : Str → Option Value} {cn f qual : Str} {C fI N : Addr} {st : Stmt} {nm q : Str} {bs bm sub : List Value} {sn : List Str} {ab : Bool} {col : Option Bool} {dd : Option Addr} {k0 k1 k2 k3 k5 : Option Value}
    {oc kV dc pm cd ct : Value} {od an : Option Addr} {sl : Array (Option Value)} (X : K.In h) (G : h.Ns mainGlobals mg) (a : PySem.W.nsIn K mainGlobals cn = some (some (.ref C)))
    (l : K.lookup C = some (excClassObj nm q C N bs bm true sn sub ab col dd k0 k1 k2 k3 k5 "ValueError.__new__")) (r : PySem.HandSPX.refsVE bm = true) (sa : PySem.W.findIn K (.ref C) "__setattr__" = some (some (.builtin "object.__setattr__")))
    (ex : PySem.W.subIn K (.ref C) (.type "BaseException") = some true) (ty : PySem.W.typeIn K (.ref C) = some (.type "type")) (kC : PySem.W.keepIn K (.ref C) = true) (x : excB K C f = true) (i : PySem.W.findIn K (.ref C) "__init__" = some (some (.ref fI))) (tI : PySem.W.typeIn K (.ref fI) = some (.type "function"))
    (lI : K.lookup fI = some ⟨oc, od, .func (PySem.W.fnOf "__init__" qual (defArgs st) (defBody st) (defScope st) .none kV dc pm an cd ct), sl⟩) (cI : PySem.W.codeIn K cd qual = true) (kI : PySem.W.keepIn K (.ref fI) = true)
    (hb : ∀ (kV doc pm : Value) (an : Option Addr) (cdv ct : Value) (us : List Value), us.length = 2 → bindArgs (PySem.W.fnOf "__init__" qual (defArgs st) (defBody st) (defScope st) .none kV doc pm an cdv ct) ⟨us, []⟩ = pure ([("self" : Str), f].zip us)) : ErrAt K w mg cn f C qual st :=
  ⟨PySem.W.mg_of X G a, ⟨⟨_, _, _, _, _, _, _, _, _, _, _, _, _, _, _, l, r⟩, sa, ex, ty, kC⟩, x, fI, _, fun_mk (st := st) lI cI kI, i, tI, hb kV dc pm an cd ct⟩
theorem kls_of {P : Program} {w : World} {K : PySem.W.Frag} {mg : Str → Option Value} {base : Heap} {T : XT} {cn f qual : Str} {C : Addr} {st : Stmt} {p1 p2 p3 pos : Pos} (E : ErrAt K w mg cn f C qual st) (t : T cn = some C) (S : FnScope [("self" : Str), f] [("self" : Str), f] (defScope st))
    (hb : defBody st = [.Assign [.Attribute (.Name "self" p1) f p2] (.Name f p3) pos]) (vz : Vis (defScope st) f) (vy : Vis (defScope st) "self" := by exact .inl rfl) (d3 : (f == ("__debug__" : Str)) = false := by decide) (d4 : (f == ("__classdict__" : Str)) = false := by decide) : Kls P w K mg base T 1 cn f C := by
  obtain ⟨fI, fd, F, i, tI, b⟩ := E.ini
  exact ⟨t, E.m, E.o, (excB_ok E.x).2.2.2, fI, fd, [("self" : Str), f], init_ok (ps := []) F S hb vy vz (d3 := d3) (d4 := d4), i, tI, .all b⟩
theorem kdct_mk {K : PySem.W.Frag} {w : World} {d : Addr} {es : Array DictEntry} {n : Nat} {z : Str} {i : Int} {t : Tok} (l : K.lookup d = some ⟨.type "dict", none, .dict es n, #[]⟩) (k : PySem.W.KeysLit w.params es.toList) (e : PySem.W.nsIn K d z = some (some (.int i t))) : KDct K w d z (.int i) :=
  ⟨es, n, _, l, k, e, t, rfl⟩
theorem look_all {tab : List (Str × Int)} {p : Str → Int → Prop} (h : ∀ q ∈ tab, p q.1 q.2) : ∀ z i, tab.lookup z = some i → p z i := by
  intro z i e
  induction tab with
  | nil => cases e
  | cons q r ih =>
    obtain ⟨k, v⟩ := q
    rw [List.lookup_cons] at e
    split at e
    · rename_i hz
      have hz : z = k := by simpa using hz
      cases e
      subst hz
      exact h _ List.mem_cons_self
    · exact ih (fun q hq => h q (List.mem_cons_of_mem _ hq)) e
theorem hu_at {Tb : List (Nat × Str)} (nd : (Tb.map Prod.fst).Nodup) {i P : Nat} {q : Str} (h : Tb[i]? = some (P, q)) : ∀ p ∈ Tb, p.1 = P → p.2 = q := by
  intro p hp e
  obtain ⟨j, hj⟩ := List.mem_iff_getElem?.mp hp
  have e1 : (Tb.map Prod.fst)[i]? = some P := by rw [List.getElem?_map, h]; rfl
  have e2 : (Tb.map Prod.fst)[j]? = some P := by rw [List.getElem?_map, hj]; exact congrArg some e
  have hi := (List.getElem?_eq_some_iff.mp e1).1
  have : i = j := (List.getElem?_inj hi nd).mp (e1.trans e2.symm)
  subst this
  rw [h] at hj
  cases hj
  rfl
theorem look_allA {tab : List (Str × Addr)} {p : Str → Addr → Prop} (h : ∀ q ∈ tab, p q.1 q.2) : ∀ z i, tab.lookup z = some i → p z i := by
  intro z i e
  induction tab with
  | nil => cases e
  | cons q r ih =>
    obtain ⟨k, v⟩ := q
    rw [List.lookup_cons] at e
    split at e
    · rename_i hz
      have hz : z = k := by simpa using hz
      cases e
      subst hz
      exact h _ List.mem_cons_self
    · exact ih (fun q hq => h q (List.mem_cons_of_mem _ hq)) e
theorem kdct_mk' {K : PySem.W.Frag} {w : World} {d : Addr} {es : Array DictEntry} {n : Nat} {z : Str} {i : Int} {u : Value} (l : K.lookup d = some ⟨.type "dict", none, .dict es n, #[]⟩) (k : PySem.W.KeysLit w.params es.toList) (e : PySem.W.nsIn K d z = some (some u)) (r : ∃ t, u = .int i t) : KDct K w d z (.int i) := by
  obtain ⟨t, rfl⟩ := r
  exact kdct_mk l k e
theorem TxtC.mk' {K : PySem.W.Frag} {h : Heap} {mg : Str → Option Value} (X : K.In h) (G : h.Ns mainGlobals mg) {x : Str} {st : Stmt} {ps : List Str} {f c : Addr} {od an : Option Addr} {sl : Array (Option Value)} {oc kV dc pm ct : Value}
    (a : PySem.W.nsIn K mainGlobals x = some (some (.ref f))) (l : K.lookup f = some ⟨oc, od, .func (PySem.W.fnOf x x (defArgs st) (defBody st) (defScope st) .none kV dc pm an (.ref c) ct), sl⟩) (cd : PySem.W.codeIn K (.ref c) x = true) (k : PySem.W.keepIn K (.ref f) = true)
    (hb : ∀ (kV doc pm : Value) (an : Option Addr) (ct : Value) (us : List Value), us.length = ps.length → bindArgs (PySem.W.fnOf x x (defArgs st) (defBody st) (defScope st) .none kV doc pm an (.ref c) ct) ⟨us, []⟩ = pure (ps.zip us)) : TxtC K mg x st ps c :=
  ⟨f, oc, od, kV, dc, pm, an, ct, sl, l, cd, k, PySem.W.mg_of X G a, hb kV dc pm an ct⟩
/-- the end: the law's promise at the head's heap -/
theorem lawAt {l : PySem.W.OpenLaw} {w : World} {K : PySem.W.Frag} {mg : Str → Option Value} {fa : Addr} {h : Heap} {T : XT} {F : Fn} {k : Nat} {st : Stmt} {cs : List (Addr × Addr)} {Tb : List (Addr × Str)} {ts : List Addr} (hc : cs.map Prod.snd = Tb.map Prod.fst) (X : K.In h)
    (hts : ∀ P ∈ ts, h.get? P = some (PySem.W.tabObj #[])) (mem : ∀ p ∈ cs, p.2 ∈ ts) (nT : ∀ p ∈ cs, K.lookup p.2 = none) (cd : ∀ p ∈ cs, PySem.W.codeHdIn K p.1 p.2 = true) (nd : (Tb.map Prod.fst).Nodup)
    (hfa : mg "law" = some (.ref fa)) (t : TxtD K mg "law" st ["script"]) (hD : ∀ base : Heap, K.In base → base.Ns mainGlobals mg → (∀ p ∈ cs, LamX.TabB base mg p.1 p.2) → Def l.prog w K mg base T k "law" ["script"] F)
    (ok : ∀ ns : List Int, ns.length ≤ 63 → ∃ om, F [.scr ns] (Tb.map fun p => Cell.tab p.1 p.2) = .ok (.sh (.bl true)) om) : LamX.LawAtS l w K (L2.CX l.prog w) k 63 "script" mg fa h := by
  obtain ⟨f, fd, Fu, hm, hb⟩ := t.ex
  rw [hfa] at hm
  cases hm
  have tab : ∀ p ∈ Tb, ∃ c, (c, p.1) ∈ cs := fun p hp => by
    have : p.1 ∈ cs.map Prod.snd := by rw [hc]; exact List.mem_map.mpr ⟨p, hp, rfl⟩
    obtain ⟨q, hq, e⟩ := List.mem_map.mp this
    exact ⟨q.1, by rw [← e]; exact hq⟩
  refine ⟨fd, cs, spD K T 1 F, fun p hp => hts _ (mem p hp), nT, fun p hp => PySem.W.codeHd_of_K X (cd p hp), fun s u => .of_eq (hb [u] rfl), fun H a ns hl _ hT hS => ?_, fun base hX hN hB => ?_⟩
  · obtain ⟨om, e⟩ := ok ns hl
    exact script_spT (Tb := Tb) (fun p hp => by
      obtain ⟨c, hcm⟩ := tab p hp
      exact hT _ hcm) nd (sqL_noTbl hS) e
  · obtain ⟨f', fd', h1, h2, h3, h4, oc, od, osl, h5⟩ := (hD base hX hN hB).ex
    rw [hfa] at h2
    cases h2
    obtain ⟨oc2, od2, osl2, h6⟩ := Fun.look Fu
    rw [h5] at h6
    cases h6
    exact h1
end Mini

set_option Elab.async false
set_option linter.all false
set_option maxRecDepth 100000
set_option maxHeartbeats 1000000
/-! PyX19: a, b = x, y by way of a tuple (a name that a comprehension reads, too). -/
namespace Mini
open PySem PySem.Spec PyProof.Rows L2
section
variable {K : PySem.W.Frag} {T : XT} {W : WX} {g : Gx} {B : Hp} {ρ : List Addr} {st : St} {σ : L2.St} {H : Hp} {p : Addr} {o : HO}
theorem OutR.put {x : V} {v : Vl} (h : OutR K g B ρ st σ H x v) (hp : H p = none) : OutR K g B ρ st σ (upd H p o) x v := by
  cases v with
  | sh d => exact h
  | ow ds =>
    obtain ⟨q, us, e, h2, h3, l⟩ := h
    have ne : q ≠ p := fun z => by subst z; rw [hp] at h2; cases h2
    exact ⟨q, us, e, (upd_ne ne).trans h2, h3, l⟩
theorem OutRs.put (hp : H p = none) : ∀ {xs : List V} {vs : List Vl}, OutRs K g B ρ st σ H xs vs → OutRs K g B ρ st σ (upd H p o) xs vs
  | [], [], _ => trivial
  | x :: xs, v :: vs, h => ⟨OutR.put h.1 hp, OutRs.put hp h.2.1, h.2.2⟩
  | [], _ :: _, h => h.elim
  | _ :: _, [], h => h.elim
variable {ta tb tc : TE} {a b c : EvE}
theorem good_parT {va : TA} {is : List Nat} {es : List EvE} {u : TGs} (hu : ∀ xs σ H Q, xs.length = es.length → Q (setAllV σ is xs) H → u xs σ H Q) (he : es.length ≤ 100) (hl : GoodVs K T W va es) : GoodS K T W (tAsg (tTup va) (gTup K es.length u)) (sPar is es) := by
  intro g B ρ st σ H D rel
  unfold sPar tAsg tTup
  refine EndS.bind (U := va σ H) (U2 := fun xs H1 => xs.length ≤ sizeLine ∧ ∀ p, H1 p = none → gTup K es.length u (.ref p) σ (upd H1 p (.tup xs)) D.nx) (hl g B ρ st σ H rel) fun vs st1 B1 ρ1 xs H1 e m1 r1 o1 => ?_
  split
  · rename_i hz
    rw [List.all_eq_true] at hz
    have len : xs.length = es.length := by rw [o1.len, vals_len e]
    exact fun w => ⟨many_le (by rw [len]; unfold many; omega), fun p hp => ⟨p, xs, rfl, .inl (.inl upd_same), len, hu xs σ _ _ len (w B1 ρ1 _ _ (Mono.refl _ _) ((r1.put (r1.lone hp)).setAll (o1.put hp) fun i hi => of_decide_eq_true (hz i hi)))⟩⟩
  · trivial
variable {X : Cx} {ev : EvS} {i j k : Nat} {tg ea eb ec : Expr} {pt pos : Pos}
theorem ss_parT2 {k2} (h : SS X K T W (.Assign [tg] (.Tuple [ea, eb] k2 pt) pos) (tAsg (tTup (tCons ta (tCons tb tNil))) (gTup K 2 (gCons (gName i) (gCons (gName j) gNil)))) ev) (ha : SE X K T W ea ta a) (hb : SE X K T W eb tb b) : SS X K T W (.Assign [tg] (.Tuple [ea, eb] k2 pt) pos) (tAsg (tTup (tCons ta (tCons tb tNil))) (gTup K 2 (gCons (gName i) (gCons (gName j) gNil)))) (sPar [i, j] [a, b]) :=
  ⟨h.pe, good_parT (es := [a, b]) (is := [i, j]) (fun xs σ H Q hl q => match xs, hl with | [x, y], _ => ⟨x, [y], rfl, y, [], rfl, rfl, q⟩) (by simp) (good_vcons ha.good (good_vcons hb.good good_vnil))⟩
theorem ss_parT3 {k2} (h : SS X K T W (.Assign [tg] (.Tuple [ea, eb, ec] k2 pt) pos) (tAsg (tTup (tCons ta (tCons tb (tCons tc tNil)))) (gTup K 3 (gCons (gName i) (gCons (gName j) (gCons (gName k) gNil))))) ev) (ha : SE X K T W ea ta a) (hb : SE X K T W eb tb b) (hc : SE X K T W ec tc c) : SS X K T W (.Assign [tg] (.Tuple [ea, eb, ec] k2 pt) pos) (tAsg (tTup (tCons ta (tCons tb (tCons tc tNil)))) (gTup K 3 (gCons (gName i) (gCons (gName j) (gCons (gName k) gNil))))) (sPar [i, j, k] [a, b, c]) :=
  ⟨h.pe, good_parT (es := [a, b, c]) (is := [i, j, k]) (fun xs σ H Q hl q => match xs, hl with | [x, y, z], _ => ⟨x, [y, z], rfl, y, [z], rfl, z, [], rfl, rfl, q⟩) (by simp) (good_vcons ha.good (good_vcons hb.good (good_vcons hc.good good_vnil)))⟩
end
end Mini

set_option Elab.async false
set_option linter.all false
set_option maxRecDepth 100000
set_option maxHeartbeats 1000000
/-! PyZ: zip of a list or tuple with a list or tuple, whichever each is. -/
namespace Mini
open PySem PySem.Spec PyProof.Rows L2
/-- the two kinds of what zip walks: true: a list -/
def itK (t : Bool) (h : Heap) (i l : Addr) (k : Nat) : Prop := if t = true then h.IsListIter i l k else h.IsTupleIter i l k
def sqK (t : Bool) (h : Heap) (l : Addr) (xs : Array Value) : Prop := if t = true then h.IsList l xs else h.IsTuple l xs
section
variable {t : Bool} {h h' : Heap} {i b l : Addr} {k : Nat} {xs : Array Value}
theorem itK.ext (x : itK t h i l k) (e : Heap.ExtBut b h h') (n : i ≠ b) : itK t h' i l k := by
  cases t
  · exact Heap.IsTupleIter.extBut (show h.IsTupleIter i l k from x) e n
  · exact Heap.IsListIter.extBut (show h.IsListIter i l k from x) e n
theorem sqK.ext (x : sqK t h l xs) (e : Heap.ExtBut b h h') (n : l ≠ b) : sqK t h' l xs := by
  cases t
  · exact Heap.IsTuple.extBut (show h.IsTuple l xs from x) e n
  · exact Heap.IsList.extBut (show h.IsList l xs from x) e n
theorem itK.there (x : itK t h i l k) (e : ∀ o, h.get? i = some o → h'.get? i = some o) : itK t h' i l k := by
  cases t
  · exact Heap.IsTupleIter.at (show h.IsTupleIter i l k from x) e
  · exact Heap.IsListIter.at (show h.IsListIter i l k from x) e
theorem itK.obj (x : itK t h i l k) : ∃ o ys, h.get? i = some o ∧ o.data = .fields ys := by
  cases t
  · obtain ⟨o, e, _, d⟩ := (show h.IsTupleIter i l k from x)
    exact ⟨o, _, e, d⟩
  · obtain ⟨o, e, _, d⟩ := (show h.IsListIter i l k from x)
    exact ⟨o, _, e, d⟩
end
section
variable {prog : Program} {w : World} {A : Around} {E : Value → Shared → Prop} {s : Shared}
theorem stepK {t : Bool} {i l : Addr} {k : Nat} {xs : Array Value} {x : Value} {Q : Value → Shared → Prop} (a : itK t s.heap i l k) (b : sqK t s.heap l xs) (e : xs[k]? = some x)
    (q : ∀ h', itK t h' i l (k + 1) → Heap.SameBut i s.heap h' → Q x { s with heap := h' }) : wpAny (model prog w) A (Builtin.SmallTypes.nextOf (.ref i)) Q E s := by
  cases t
  · exact RZ.nextOf_tuple_item (show s.heap.IsTupleIter i l k from a) (show s.heap.IsTuple l xs from b) e q
  · exact wpAny_nextOf_list_item (show s.heap.IsListIter i l k from a) (show s.heap.IsList l xs from b) e q
theorem stopK {t : Bool} {i l : Addr} {k : Nat} {xs : Array Value} {Q : Value → Shared → Prop} (hh : A.handled = none) (a : itK t s.heap i l k) (b : sqK t s.heap l xs) (e : xs[k]? = none)
    (q : ∀ h' x, Heap.ExtBut i s.heap h' → (∃ o, h'.get? x = some o ∧ o.cls = .type "StopIteration") → E (.ref x) { s with heap := h' }) : wpAny (model prog w) A (Builtin.SmallTypes.nextOf (.ref i)) Q E s := by
  cases t
  · exact RZ.nextOf_tuple_end hh (show s.heap.IsTupleIter i l k from a) (show s.heap.IsTuple l xs from b) e q
  · exact wpAny_nextOf_list_end hh (show s.heap.IsListIter i l k from a) (show s.heap.IsList l xs from b) e q
/-- the four that a turn may change -/
def apart4 (z TO i j : Addr) (h h' : Heap) : Prop := ∀ c o, c ≠ z → c ≠ TO → c ≠ i → c ≠ j → h.get? c = some o → h'.get? c = some o
variable {t u : Bool} {z TI TO i j l m : Addr} {k n : Nat} {xs ys : Array Value} {x y a b : Value}
theorem zipK_turn {Q : Value → Shared → Prop} (D : ZipApart z TI TO i j l m) (Z : IsZip s.heap z TI TO .none) (hI : IsPair s.heap TI (.ref i) (.ref j)) (hO : IsPair s.heap TO a b)
    (wi : itK t s.heap i l k) (wj : itK u s.heap j m n) (ql : sqK t s.heap l xs) (qm : sqK u s.heap m ys) (ex : xs[k]? = some x) (ey : ys[n]? = some y)
    (go : ∀ h', IsZip h' z TI TO (rawInt s.heap.objs.size) → IsPair h' TO x y → itK t h' i l (k + 1) → itK u h' j m (n + 1) → IsPair h' s.heap.objs.size x y → h'.objs.size = s.heap.objs.size + 1 → apart4 z TO i j s.heap h' → Q (.ref s.heap.objs.size) { s with heap := h' }) :
    wpAny (model prog w) A (Builtin.«zip.__next__» ⟨[.ref z], []⟩) (fun r s' => ∃ v, r = .done (.ret v) ∧ Q v s') E s := by
  show wpAny _ _ (field (.ref z) 2 >>= _) _ _ _
  refine wpAny_bind (wpAny_field Z rfl (x := .bool false) rfl ?_); show wpAny _ _ (field (.ref z) 3 >>= _) _ _ _
  refine wpAny_bind (wpAny_field Z rfl (x := .ref TI) rfl (wpAny_bind (wpAny_seqItems hI rfl ?_) |> fun q => q)); show wpAny _ _ (Builtin.SmallTypes.ownedTupleIsFree (.ref z) >>= _) _ _ _
  refine wpAny_bind ?_; unfold Builtin.SmallTypes.ownedTupleIsFree
  refine wpAny_bind (wpAny_field Z rfl (x := .none) rfl (wpAny_pure ?_)); simp only [if_true]
  refine wpAny_bind (wpAny_rule (wpAny_bind (wpAny_field Z rfl (x := .ref TO) rfl (wpAny_bind (wpAny_setField_rec Z (by simp) fun h1 Z1 d1 => ?_)))))
  replace Z1 : IsZip h1 z TI TO .ellipsis := Z1
  refine wpAny_bind ?_; simp only [List.zipIdx_cons, List.zipIdx_nil, List.forIn_cons, List.forIn_nil]
  refine wpAny_bind (wpAny_bind (wpAny_onRaise ?_)); show wpAny _ _ (Builtin.SmallTypes.nextOf (.ref i) >>= _) _ _ _
  refine wpAny_bind (stepK (wi.ext d1.extBut D.i1z) (ql.ext d1.extBut D.l1z) ex fun h2 wi2 d2 => wpAny_pure ?_)
  have O2 : IsPair h2 TO a b := d2.extBut _ _ D.TOi1 (d1.extBut _ _ D.TOz hO)
  refine wpAny_bind (wpAny_seqItems O2 rfl (wpAny_bind (wpAny_updateSeq_pair O2 fun h3 O3 d3 => ?_) |> fun q => q))
  replace O3 : IsPair h3 TO x b := O3
  refine wpAny_bind (wpAny_letGo (wpAny_pure (wpAny_bind (wpAny_bind (wpAny_onRaise ?_))))); show wpAny _ _ (Builtin.SmallTypes.nextOf (.ref j) >>= _) _ _ _
  have wj3 := ((wj.ext d1.extBut D.i2z).ext d2.extBut D.i12.symm).ext d3.extBut D.TOi2.symm
  have qm3 := ((qm.ext d1.extBut D.l2z).ext d2.extBut D.l2i1).ext d3.extBut D.l2TO
  refine wpAny_bind (stepK wj3 qm3 ey fun h4 wj4 d4 => wpAny_pure ?_)
  have O4 : IsPair h4 TO x b := d4.extBut _ _ D.TOi2 O3
  refine wpAny_bind (wpAny_seqItems O4 rfl (wpAny_bind (wpAny_updateSeq_pair O4 fun h5 O5 d5 => ?_) |> fun q => q))
  replace O5 : IsPair h5 TO x y := O5
  refine wpAny_bind (wpAny_letGo (wpAny_pure (wpAny_pure (wpAny_bind (wpAny_seqItems O5 rfl (wpAny_bind (wpAny_newTuple ?_) |> fun q => q))))))
  have sz : h5.objs.size = s.heap.objs.size := by rw [d5.1, d4.1, d3.1, d2.1, d1.1]
  have Z5 : IsZip h5 z TI TO .ellipsis := d5.extBut _ _ D.TOz.symm (d4.extBut _ _ D.i2z.symm (d3.extBut _ _ D.TOz.symm (d2.extBut _ _ D.i1z.symm Z1)))
  have keep : apart4 z TO i j s.heap h5 := fun c o n1 n2 n3 n4 e => d5.extBut _ _ n2 (d4.extBut _ _ n4 (d3.extBut _ _ n2 (d2.extBut _ _ n3 (d1.extBut _ _ n1 e))))
  have wi5 : itK t h5 i l (k + 1) := ((wi2.ext d3.extBut D.TOi1.symm).ext d4.extBut D.i12).ext d5.extBut D.TOi1.symm
  have wj5 : itK u h5 j m (n + 1) := wj4.ext d5.extBut D.TOi2.symm
  have zl : z < h5.objs.size := Heap.lt_size Z5
  show wpAny _ _ (Builtin.SmallTypes.ownedTupleHandOut (.ref z) (.ref h5.objs.size) >>= _) _ _ _
  refine wpAny_bind ?_; unfold Builtin.SmallTypes.ownedTupleHandOut
  have Z6 : IsZip (h5.push { cls := .type "tuple", data := .seq #[x, y] }) z TI TO .ellipsis := Heap.get?_push_of_some _ Z5
  refine wpAny_bind (wpAny_setField_rec Z6 (by simp) fun h7 Z7 d7 => ?_)
  replace Z7 : IsZip h7 z TI TO (rawInt h5.objs.size) := Z7
  refine wpAny_setField_rec Z7 (by simp) fun h8 Z8 d8 => ?_
  replace Z8 : IsZip h8 z TI TO (rawInt h5.objs.size) := Z8
  have up : ∀ c o, c ≠ z → h5.get? c = some o → h8.get? c = some o := fun c o n1 e => d8.extBut _ _ n1 (d7.extBut _ _ n1 (Heap.get?_push_of_some _ e))
  have P8 : IsPair h8 h5.objs.size x y := d8.extBut _ _ (Nat.ne_of_gt zl) (d7.extBut _ _ (Nat.ne_of_gt zl) (Heap.get?_push_size _ rfl))
  have s8 : h8.objs.size = h5.objs.size + 1 := by rw [d8.1, d7.1, Heap.size_push]
  rw [sz] at Z8 P8 s8
  refine wpAny_pure ⟨_, rfl, ?_⟩
  show Q (.ref h5.objs.size) _
  rw [sz]
  exact go h8 Z8 (up _ _ D.TOz O5) (wi5.there fun o e => up _ o D.i1z e) (wj5.there fun o e => up _ o D.i2z e) P8 s8 fun c o n1 n2 n3 n4 e => up c o n1 (keep c o n1 n2 n3 n4 e)
theorem zipK_done {Q : Fin → Shared → Prop} (hh : A.handled = none) (D : ZipApart z TI TO i j l m) (Z : IsZip s.heap z TI TO .none) (hI : IsPair s.heap TI (.ref i) (.ref j)) (hO : IsPair s.heap TO a b)
    (wi : itK t s.heap i l k) (wj : itK u s.heap j m n) (ql : sqK t s.heap l xs) (qm : sqK u s.heap m ys) (fin : xs[k]? = none ∨ ys[n]? = none)
    (go : ∀ h' e, apart4 z TO i j s.heap h' → (∃ o, h'.get? e = some o ∧ o.cls = .type "StopIteration") → E (.ref e) { s with heap := h' }) : wpAny (model prog w) A (Builtin.«zip.__next__» ⟨[.ref z], []⟩) Q E s := by
  show wpAny _ _ (field (.ref z) 2 >>= _) _ _ _
  refine wpAny_bind (wpAny_field Z rfl (x := .bool false) rfl ?_); show wpAny _ _ (field (.ref z) 3 >>= _) _ _ _
  refine wpAny_bind (wpAny_field Z rfl (x := .ref TI) rfl (wpAny_bind (wpAny_seqItems hI rfl ?_) |> fun q => q)); show wpAny _ _ (Builtin.SmallTypes.ownedTupleIsFree (.ref z) >>= _) _ _ _
  refine wpAny_bind ?_; unfold Builtin.SmallTypes.ownedTupleIsFree
  refine wpAny_bind (wpAny_field Z rfl (x := .none) rfl (wpAny_pure ?_)); simp only [if_true]
  refine wpAny_bind (wpAny_rule (wpAny_bind (wpAny_field Z rfl (x := .ref TO) rfl (wpAny_bind (wpAny_setField_rec Z (by simp) fun h1 Z1 d1 => ?_)))))
  replace Z1 : IsZip h1 z TI TO .ellipsis := Z1
  refine wpAny_bind ?_; simp only [List.zipIdx_cons, List.zipIdx_nil, List.forIn_cons, List.forIn_nil]
  refine wpAny_bind (wpAny_bind (wpAny_onRaise ?_)); show wpAny _ _ (Builtin.SmallTypes.nextOf (.ref i) >>= _) _ _ _
  cases ex : xs[k]? with
  | none =>
    refine wpAny_bind (stopK hh (wi.ext d1.extBut D.i1z) (ql.ext d1.extBut D.l1z) ex fun h2 e d2 he => ?_)
    obtain ⟨oe, g, c⟩ := he
    have Z2 : IsZip h2 z TI TO .ellipsis := d2 _ _ D.i1z.symm Z1
    have ne : e ≠ z := fun q => by subst q; rw [Z2] at g; cases g; simp at c
    refine wpAny_setField_rec Z2 (by simp) fun h3 _ d3 => go h3 e (fun q o n1 _ n3 _ y => d3.extBut _ _ n1 (d2 _ _ n3 (d1.extBut _ _ n1 y))) ⟨oe, d3.extBut _ _ ne g, c⟩
  | some x =>
    have ey : ys[n]? = none := by rcases fin with q | q; rw [ex] at q; cases q; exact q
    refine wpAny_bind (stepK (wi.ext d1.extBut D.i1z) (ql.ext d1.extBut D.l1z) ex fun h2 wi2 d2 => wpAny_pure ?_)
    have O2 : IsPair h2 TO a b := d2.extBut _ _ D.TOi1 (d1.extBut _ _ D.TOz hO)
    refine wpAny_bind (wpAny_seqItems O2 rfl (wpAny_bind (wpAny_updateSeq_pair O2 fun h3 O3 d3 => ?_) |> fun q => q))
    refine wpAny_bind (wpAny_letGo (wpAny_pure (wpAny_bind (wpAny_bind (wpAny_onRaise ?_))))); show wpAny _ _ (Builtin.SmallTypes.nextOf (.ref j) >>= _) _ _ _
    have wj3 := ((wj.ext d1.extBut D.i2z).ext d2.extBut D.i12.symm).ext d3.extBut D.TOi2.symm
    have qm3 := ((qm.ext d1.extBut D.l2z).ext d2.extBut D.l2i1).ext d3.extBut D.l2TO
    refine wpAny_bind (stopK hh wj3 qm3 ey fun h4 e d4 he => ?_)
    obtain ⟨oe, g, c⟩ := he
    have Z4 : IsZip h4 z TI TO .ellipsis := d4 _ _ D.i2z.symm (d3.extBut _ _ D.TOz.symm (d2.extBut _ _ D.i1z.symm Z1))
    have ne : e ≠ z := fun q => by subst q; rw [Z4] at g; cases g; simp at c
    refine wpAny_setField_rec Z4 (by simp) fun h5 _ d5 => go h5 e (fun q o n1 n2 n3 n4 y => d5.extBut _ _ n1 (d4 _ _ n4 (d3.extBut _ _ n2 (d2.extBut _ _ n3 (d1.extBut _ _ n1 y))))) ⟨oe, d5.extBut _ _ ne g, c⟩
theorem nextK_turn {Q : Option Value → Shared → Prop} (D : ZipApart z TI TO i j l m) (Z : IsZip s.heap z TI TO .none) (hI : IsPair s.heap TI (.ref i) (.ref j)) (hO : IsPair s.heap TO a b)
    (wi : itK t s.heap i l k) (wj : itK u s.heap j m n) (ql : sqK t s.heap l xs) (qm : sqK u s.heap m ys) (ex : xs[k]? = some x) (ey : ys[n]? = some y)
    (go : ∀ h', IsZip h' z TI TO (rawInt s.heap.objs.size) → IsPair h' TO x y → itK t h' i l (k + 1) → itK u h' j m (n + 1) → IsPair h' s.heap.objs.size x y → h'.objs.size = s.heap.objs.size + 1 → apart4 z TO i j s.heap h' → Q (some (.ref s.heap.objs.size)) { s with heap := h' }) :
    wpAny (model prog w) A (pyNext (.ref z)) Q E s := by
  have ty : s.TypeIs (.ref z) "zip" := ⟨_, Z, rfl⟩
  unfold pyNext
  exact wpAny_bind (wpAny_attempt (wpAny_callSpecial?_slot (name := Str.ofString "__next__") ty F.slot_zip_next (wpAny_call_entry F.slot_zip_next ty F.entry_zip_next (zipK_turn D Z hI hO wi wj ql qm ex ey fun h' a1 a2 a3 a4 a5 a6 a7 => wpAny_pure (go h' a1 a2 a3 a4 a5 a6 a7)) (F.args_zip_next_1 _))))
theorem nextK_done {Q : Option Value → Shared → Prop} (hh : A.handled = none) (D : ZipApart z TI TO i j l m) (Z : IsZip s.heap z TI TO .none) (hI : IsPair s.heap TI (.ref i) (.ref j)) (hO : IsPair s.heap TO a b)
    (wi : itK t s.heap i l k) (wj : itK u s.heap j m n) (ql : sqK t s.heap l xs) (qm : sqK u s.heap m ys) (fin : xs[k]? = none ∨ ys[n]? = none) (go : ∀ h', apart4 z TO i j s.heap h' → Q none { s with heap := h' }) :
    wpAny (model prog w) A (pyNext (.ref z)) Q E s := by
  have ty : s.TypeIs (.ref z) "zip" := ⟨_, Z, rfl⟩
  unfold pyNext
  refine wpAny_bind (wpAny_attempt (wpAny_callSpecial?_slot (name := Str.ofString "__next__") ty F.slot_zip_next (wpAny_call_entry F.slot_zip_next ty F.entry_zip_next (zipK_done hh D Z hI hO wi wj ql qm fin fun h' e kp he => ?_) (F.args_zip_next_1 _))))
  obtain ⟨o, g, c⟩ := he
  refine wpAny_bind (wpAny_isInstance (T := "StopIteration") (b := true) ⟨o, g, c⟩ isSubtype_stop (wpAny_pure (go _ kp)))
end
/-! zip(list, tuple): how it is made -/
section
variable (h : Heap) (l m : Addr)
def zk1 : Heap := h.push { cls := .type "list_iterator", data := .fields #[.ref l, .int 0 0] }
def zk2 : Heap := (zk1 h l).push { cls := .type "tuple_iterator", data := .fields #[.ref m, .int 0 0] }
def zk3 : Heap := (zk2 h l m).push { cls := .type "tuple", data := .seq #[.ref h.objs.size, .ref (zk1 h l).objs.size] }
def zk4 : Heap := (zk3 h l m).push { cls := .type "tuple", data := .seq #[.none, .none] }
def zk5 : Heap := (zk4 h l m).push { cls := .type "zip", data := .fields #[.none, .bool false, .bool false, .ref (zk2 h l m).objs.size, .ref (zk3 h l m).objs.size] }
end
theorem zk_new (l m : Addr) (xs ys : Array Value) : Meets (Builtin.«zip.__new__» ⟨[.type "zip", .ref l, .ref m], []⟩) (fun _ R s => s.heap.IsList l xs ∧ s.heap.IsTuple m ys ∧ R (.ok (.ret (.ref (zk4 s.heap l m).objs.size))) { s with heap := zk5 s.heap l m }) :=
  .of_wp fun prog w A R s q => by
    obtain ⟨hp, g, d, tk, os⟩ := s; obtain ⟨ql, qm, q⟩ := q
    have hsub := sub_zip
    have w1 : Heap.IsList (Shared.heap ⟨hp, g, d, tk, os⟩) l xs := ql
    have w2 : Heap.IsTuple (Shared.heap ⟨hp.push { cls := .type "list_iterator", data := .fields #[.ref l, .int 0 0] }, g, d, tk, os⟩) m ys := Heap.IsTuple.push qm _
    simp only [zk1, zk2, zk3, zk4, zk5] at q
    wp_walk using wpAny_pyIter_list w1, wpAny_pyIter_tuple w2
    exact ⟨_, rfl, q⟩
theorem zk_call {prog : Program} {w : World} {A : Around} {E : Value → Shared → Prop} {s : Shared} {l m : Addr} {xs ys : Array Value} {Q : Value → Shared → Prop} (ql : s.heap.IsList l xs) (qm : s.heap.IsTuple m ys)
    (go : ∀ h', IsZip h' (s.heap.objs.size + 4) (s.heap.objs.size + 2) (s.heap.objs.size + 3) .none → IsPair h' (s.heap.objs.size + 2) (.ref s.heap.objs.size) (.ref (s.heap.objs.size + 1)) → IsPair h' (s.heap.objs.size + 3) .none .none →
      itK true h' s.heap.objs.size l 0 → itK false h' (s.heap.objs.size + 1) m 0 → h'.objs.size = s.heap.objs.size + 5 → (∀ c o, s.heap.get? c = some o → h'.get? c = some o) → Q (.ref (s.heap.objs.size + 4)) { s with heap := h' }) :
    wpAny (model prog w) A (call (.type "zip") [.ref l, .ref m]) Q E s := by
  refine callType_new F.called_zip (by decide) (F.typeCall_zip_2 _ _) (F.newCall_zip_2 _ _) (fun obj => F.args_object_init_3 obj _ _) F.entry_zip_new (zk_new l m xs ys) ⟨ql, qm, ?_⟩
  have z1 : (zk1 s.heap l).objs.size = s.heap.objs.size + 1 := Heap.size_push ..
  have z2 : (zk2 s.heap l m).objs.size = s.heap.objs.size + 2 := by unfold zk2; rw [Heap.size_push, z1]
  have z3 : (zk3 s.heap l m).objs.size = s.heap.objs.size + 3 := by unfold zk3; rw [Heap.size_push, z2]
  have z4 : (zk4 s.heap l m).objs.size = s.heap.objs.size + 4 := by unfold zk4; rw [Heap.size_push, z3]
  have z5 : (zk5 s.heap l m).objs.size = s.heap.objs.size + 5 := by unfold zk5; rw [Heap.size_push, z4]
  have up5 : ∀ c o, (zk4 s.heap l m).get? c = some o → (zk5 s.heap l m).get? c = some o := fun c o e => Heap.get?_push_of_some _ e
  have up4 : ∀ c o, (zk3 s.heap l m).get? c = some o → (zk5 s.heap l m).get? c = some o := fun c o e => up5 c o (Heap.get?_push_of_some _ e)
  have up3 : ∀ c o, (zk2 s.heap l m).get? c = some o → (zk5 s.heap l m).get? c = some o := fun c o e => up4 c o (Heap.get?_push_of_some _ e)
  have up2 : ∀ c o, (zk1 s.heap l).get? c = some o → (zk5 s.heap l m).get? c = some o := fun c o e => up3 c o (Heap.get?_push_of_some _ e)
  have g5 : (zk5 s.heap l m).get? (zk4 s.heap l m).objs.size = some _ := Heap.get?_push_size _ rfl
  have g4 : (zk5 s.heap l m).get? (zk3 s.heap l m).objs.size = some _ := up5 _ _ (Heap.get?_push_size _ rfl)
  have g3 : (zk5 s.heap l m).get? (zk2 s.heap l m).objs.size = some _ := up4 _ _ (Heap.get?_push_size _ rfl)
  have g2 : (zk5 s.heap l m).get? (zk1 s.heap l).objs.size = some _ := up3 _ _ (Heap.get?_push_size _ rfl)
  have g1 : (zk5 s.heap l m).get? s.heap.objs.size = some _ := up2 _ _ (Heap.get?_push_size _ rfl)
  show _ ∧ _
  rw [z2, z3, z4] at g5
  rw [z1, z2] at g3
  rw [z3] at g4
  rw [z1] at g2
  rw [z4]
  exact ⟨⟨_, g5, rfl⟩, go _ g5 g3 g4 ⟨_, g1, rfl, rfl⟩ ⟨_, g2, rfl, rfl⟩ z5 fun c o e => up2 _ _ (Heap.get?_push_of_some _ e)⟩
/-! the walk -/
def SqK (K : PySem.W.Frag) (t : Bool) (H : Hp) (a : Addr) (xs : List V) : Prop := if t = true then SqL K H a xs else SqT K H a xs
theorem SqK.obj {X : Cx} {pins : List (Addr × Obj)} {σ : L2.St} {H : Hp} {s : Shared} {t : Bool} {a : Addr} {xs : List V} (I : Inv X pins σ H s) (q : SqK X.K t H a xs) : ∃ us : List Value, Vals xs us ∧ sqK t s.heap a us.toArray := by
  cases t
  · obtain ⟨us, r, p, _⟩ := I.tuple (show SqT X.K H a xs from q)
    exact ⟨us, r, p⟩
  · obtain ⟨us, r, p, _⟩ := I.list (show SqL X.K H a xs from q)
    exact ⟨us, r, p.isList⟩
theorem SqK.inj {X : Cx} {pins : List (Addr × Obj)} {σ : L2.St} {H : Hp} {s : Shared} {t : Bool} {a : Addr} {xs ys : List V} (I : Inv X pins σ H s) (p : SqK X.K t H a xs) (q : SqK X.K t H a ys) : xs = ys := by
  cases t
  · exact I.tuple_inj (show SqT X.K H a xs from p) (show SqT X.K H a ys from q)
  · exact I.list_inj (show SqL X.K H a xs from p) (show SqL X.K H a ys from q)
/-- zip's items -/
def ItzK (K : PySem.W.Frag) (t u : Bool) (a b : Addr) : It :=
  ⟨fun k H => ∃ (xs ys : List V) (x y : V), SqK K t H a xs ∧ SqK K u H b ys ∧ xs[k]? = some x ∧ ys[k]? = some y,
    fun k H v H' => ∃ N x y, v = .ref N ∧ H N = none ∧ H' = upd H N (.tup [x, y]) ∧ (∀ xs, SqK K t H a xs → xs[k]? = some x) ∧ ∀ ys, SqK K u H b ys → ys[k]? = some y,
    fun k H => ∃ xs ys : List V, SqK K t H a xs ∧ SqK K u H b ys ∧ (xs.length ≤ k ∨ ys.length ≤ k)⟩
theorem turn_zipK {P : Program} {w : World} {K : PySem.W.Frag} {es : List Expr} {kk : Nat} {tp : Pos} {t u : Bool} {a b z TI TO i j : Addr} (D : ZipApart z TI TO i j a b) :
    Turn P w K (.Tuple es kk tp) (ItzK K t u a b) [z, TI, TO, i, j] z (fun k h => IsZip h z TI TO .none ∧ IsPair h TI (.ref i) (.ref j) ∧ (∃ x y, IsPair h TO x y) ∧ itK t h i a k ∧ itK u h j b k) where
  mem := by simp
  obj := fun k h st c hc => by
    obtain ⟨Z, hI, ⟨x, y, hO⟩, wi, wj⟩ := st
    have hc : c = z ∨ c = TI ∨ c = TO ∨ c = i ∨ c = j := by simpa using hc
    rcases hc with rfl | rfl | rfl | rfl | rfl
    · exact ⟨_, Z, fun v q => nomatch q⟩
    · exact ⟨_, hI, fun v q => nomatch q⟩
    · exact ⟨_, hO, fun v q => nomatch q⟩
    · obtain ⟨o, ys, e, d⟩ := wi.obj
      exact ⟨o, e, fun v q => by rw [d] at q; cases q⟩
    · obtain ⟨o, ys, e, d⟩ := wj.obj
      exact ⟨o, e, fun v q => by rw [d] at q; cases q⟩
  keep := fun k h h' st kp => by
    obtain ⟨Z, hI, ⟨x, y, hO⟩, wi, wj⟩ := st
    exact ⟨kp z (by simp) _ Z, kp TI (by simp) _ hI, ⟨x, y, kp TO (by simp) _ hO⟩, wi.there fun o q => kp i (by simp) o q, wj.there fun o q => kp j (by simp) o q⟩
  item := by
    intro X hP hw hK hc k pins s σ H E I hf st hg
    subst hP hw hK
    obtain ⟨Z, hI, ⟨x0, y0, hO⟩, wi, wj⟩ := st
    obtain ⟨xs, ys, x, y, qa, qb, hx, hy⟩ := hg
    obtain ⟨us, rv, p⟩ := SqK.obj I qa
    obtain ⟨vs, rv2, p2⟩ := SqK.obj I qb
    obtain ⟨u1, hu1, ru1⟩ := rv.get hx
    obtain ⟨u2, hu2, ru2⟩ := rv2.get hy
    have zl : z < s.heap.objs.size := Heap.lt_size Z
    refine nextK_turn D Z hI hO wi wj p p2 (x := u1) (y := u2) (by simpa using hu1) (by simpa using hu2) fun h' Z' O' wi' wj' P' sz kp => ?_
    refine ⟨_, rfl, wpAny_letOwnedTupleGo_zip (s := { s with heap := h' }) Z' fun h2 Z2 sb => ?_⟩
    have P2 : h2.get? s.heap.objs.size = some { cls := .type "tuple", data := .seq #[u1, u2] } := (sb.2 _ (Nat.ne_of_gt zl)).trans P'
    have new : ObjOk X.prog X.w (upd H s.heap.objs.size (.tup [x, y])) h2 s.heap.objs.size (.tup [x, y]) := ⟨by show 2 ≤ sizeLine; decide, [u1, u2], .cons ru1 (.cons ru2 .nil), ⟨_, P2, rfl, _, rfl⟩⟩
    have far : ∀ c o, c ∉ [z, TI, TO, i, j] → s.heap.get? c = some o → h2.get? c = some o := fun c o n e => by
      simp only [List.mem_cons, List.mem_nil_iff, or_false, not_or] at n
      exact (sb.2 c n.1).trans (kp c o n.1 n.2.2.1 n.2.2.2.1 n.2.2.2.2 e)
    have I1 : Inv X pins σ (upd H s.heap.objs.size (.tup [x, y])) { s with heap := h2 } := I.turnedNew (t' := s.toks) (ch := [z, TI, TO, i, j]) far hf (Nat.le_refl _) new
    refine ⟨.ref s.heap.objs.size, _, I1, rfl, ⟨_, x, y, rfl, I.hok.fresh (Nat.le_refl _), rfl, fun l q => by rw [SqK.inj I q qa]; exact hx, fun l q => by rw [SqK.inj I q qb]; exact hy⟩, ⟨Z2, (sb.2 _ D.TIz).trans (kp _ _ D.TIz D.TITO D.TIi1 D.TIi2 hI), ⟨u1, u2, (sb.2 _ D.TOz).trans O'⟩, wi'.there fun o q => (sb.2 _ D.i1z).trans q, wj'.there fun o q => (sb.2 _ D.i2z).trans q⟩, fun c hc => ?_⟩
    have lt : c < s.heap.objs.size := by
      have hc' : c = z ∨ c = TI ∨ c = TO ∨ c = i ∨ c = j := by simpa using hc
      rcases hc' with q | q | q | q | q
      · rw [q]; exact zl
      · rw [q]; exact Heap.lt_size hI
      · rw [q]; exact Heap.lt_size hO
      · rw [q]; obtain ⟨_, _, e, _⟩ := wi.obj; exact Heap.lt_size e
      · rw [q]; obtain ⟨_, _, e, _⟩ := wj.obj; exact Heap.lt_size e
    rw [upd_ne (Nat.ne_of_lt lt)]
    exact (hf c hc).1
  done := by
    intro X hP hw hK hc k pins s σ H E I hf st hg
    subst hP hw hK
    obtain ⟨Z, hI, ⟨x0, y0, hO⟩, wi, wj⟩ := st
    obtain ⟨xs, ys, qa, qb, fin⟩ := hg
    obtain ⟨us, rv, p⟩ := SqK.obj I qa
    obtain ⟨vs, rv2, p2⟩ := SqK.obj I qb
    have l1 := rv.length
    have l2 := rv2.length
    have he : us.toArray[k]? = none ∨ vs.toArray[k]? = none := fin.imp (fun q => by simp; omega) (fun q => by simp; omega)
    exact nextK_done (I.ok.hd hc) D Z hI hO wi wj p p2 he fun h' kp => ⟨rfl, I.turnedL (t' := s.toks) (ch := [z, TI, TO, i, j]) (fun c o n e => by
      simp only [List.mem_cons, List.mem_nil_iff, or_false, not_or] at n
      exact kp c o n.1 n.2.2.1 n.2.2.2.1 n.2.2.2.2 e) hf⟩
  self := fun A i s Q E st h => wpAny_pyIter_zip st.1 h
/-- zip of lists, or of a list and a tuple -/
def iZipK (K : PySem.W.Frag) (ta : TA) : TI := fun σ H R => L2.iZip K ta σ H R ∨ ta σ H fun vs H1 => ∃ a b xs ys, vs = [.ref a, .ref b] ∧ SqL K H1 a xs ∧ SqT K H1 b ys ∧ R (ItzK K true false a b) H1
theorem pi_zipK {X : Cx} {e e2 : Expr} {ta : TA} {p pos tpos : Pos} {es : List Expr} {kk : Nat} (hg : Gl X "zip") (hm : X.mg "zip" = none) (ha : PA X [e, e2] ta)
    (hs : starEach [e, e2] X.env = (false, eval e X.env) :: starEach [e2] X.env := by rfl) (hpl : (backTo pos (starEach [e2] X.env)).any (·.1) = false := by rfl) : PI X (.Tuple es kk tpos) (.Call (.Name "zip" p) [e, e2] [] pos) (iZipK X.K ta) := by
  refine ⟨fun pins s σ H R I h => h.elim ((pi_zip hg hm ha hs hpl).run pins s σ H R I) fun h => ?_⟩
  refine Call_ (ld_blt I hg hm PyProof.Rows.boot_zip (PyProof.Rows.callWith_type1 (thn (ha.run pos pins s σ H _ I h) fun us s1 ⟨vs, H1, I1, r1, q1⟩ => ?_) hs hpl))
  obtain ⟨a, b, xs, ys, rfl, qa, qb, q⟩ := q1
  cases r1 with
  | cons r rr =>
    cases rr with
    | cons r' rr =>
      cases rr; cases r; cases r'
      obtain ⟨its, rv, p1, _⟩ := I1.list qa
      obtain ⟨its2, rv2, p2, _⟩ := I1.tuple qb
      obtain ⟨o2, g2, _⟩ := id p2
      refine zk_call p1.isList p2 fun h' Z hI hO wi wj sz kp => wpAny_pyIter_zip Z ?_
      have I2 : Inv X pins σ H1 { s1 with heap := h' } := I1.kept (t' := s1.toks) kp
      refine ⟨s1.heap.objs.size + 4, [s1.heap.objs.size + 4, s1.heap.objs.size + 2, s1.heap.objs.size + 3, s1.heap.objs.size, s1.heap.objs.size + 1], _, _, H1, rfl, I2, turn_zipK (PySem.W.ktu_apart s1.heap.objs.size a b p1.lt (Heap.lt_size g2)), ⟨Z, hI, ⟨_, _, hO⟩, wi, wj⟩, fun c hc => ?_, q⟩
      have le : s1.heap.objs.size ≤ c := by
        have hc' : c = s1.heap.objs.size + 4 ∨ c = s1.heap.objs.size + 2 ∨ c = s1.heap.objs.size + 3 ∨ c = s1.heap.objs.size ∨ c = s1.heap.objs.size + 1 := by simpa using hc
        rcases hc' with q | q | q | q | q <;> (rw [q]; first | exact Nat.le_refl _ | exact Nat.le_add_right _ _)
      exact I1.fpOk le (I1.hok.fresh le)
section
variable {K : PySem.W.Frag} {T : XT} {W : WX} {va : TA} {l : EvA}
def iZipM (K : PySem.W.Frag) (ta : TA) : TI := fun σ H R => ta σ H fun vs H1 => ∃ a b xs ys, vs = [.ref a, .ref b] ∧ SqL K H1 a xs ∧ SqT K H1 b ys ∧ R (ItzK K true false a b) H1
def iZipLT (a : EvA) : EvI := fun st => (a st).bind fun ds s1 => match ds with
  | [.lst xs, .tup ys] => .ok ((xs.zip ys).map fun p => D.tup [p.1, p.2]) s1
  | _ => .no
theorem good_izipM (hl : GoodA K T W va l) : GoodI K T W (iZipM K va) (iZipLT l) := by
  intro g B ρ st σ H rel
  unfold iZipLT iZipM
  refine Res.bind (U := va σ H) (U2 := fun vs H1 R => ∃ a b xs ys, vs = [V.ref a, V.ref b] ∧ SqL K H1 a xs ∧ SqT K H1 b ys ∧ R (ItzK K true false a b) H1) (O := oDs K) (hl g B ρ st σ H rel) fun ds s1 B1 ρ1 vs H1 _ m1 r1 o1 => ?_
  have o1 : Reps K B1 ρ1 vs ds := o1
  split
  · rename_i xs ys _ _
    cases o1 with
    | cons ra t =>
      cases t with
      | cons rb t =>
        cases t
        cases ra with
        | @lst aa us _ h1 h2 =>
          cases rb with
          | @tup ab ws _ h3 h4 =>
            refine Res.now (x := ItzK K true false aa ab) (fun Q q => ⟨_, _, _, _, rfl, SqL.of (r1.sub _ _ h1), .inl (.inl (r1.sub _ _ h3)), q⟩) (Mono.refl _ _) r1 fun g' i B2 ρ2 st2 σ2 H2 m2 rel2 => ?_
            have e1 : SqL K H2 aa us := SqL.of (rel2.sub _ _ (m2.b _ _ h1))
            have e2 : SqT K H2 ab ws := .inl (.inl (rel2.sub _ _ (m2.b _ _ h3)))
            refine ⟨fun d hd => ?_, fun hi => ⟨us, ws, e1, e2, ?_⟩⟩
            · rw [List.getElem?_map] at hd
              cases e : (xs.zip ys)[i]? with
              | none => rw [e] at hd; cases hd
              | some p =>
                rw [e] at hd
                cases hd
                obtain ⟨hx, hy⟩ := zip_get xs ys i (x := p.1) (y := p.2) e
                obtain ⟨u, hu, ru⟩ := h2.get hx
                obtain ⟨w, hw, rw'⟩ := h4.get hy
                refine ⟨⟨us, ws, u, w, e1, e2, hu, hw⟩, fun x H' hyl => ?_⟩
                obtain ⟨Tt, x1, x2, rfl, nT, rfl, f1, f2⟩ := hyl
                have ex1 : x1 = u := Option.some.inj ((f1 _ e1).symm.trans hu)
                have ex2 : x2 = w := Option.some.inj ((f2 _ e2).symm.trans hw)
                subst ex1 ex2
                have sN := Sub.new (o := .tup [x1, x2]) rel2 nT
                exact ⟨_, sN, rel2.imm nT, .tup upd_same (.cons ((ru.up m2).mono sN (Pre.refl _)) (.cons ((rw'.up m2).mono sN (Pre.refl _)) .nil))⟩
            · rw [List.length_map, List.length_zip] at hi
              rw [h2.length, h4.length]
              omega
  · trivial
theorem good_izipK (hl : GoodA K T W va l) : GoodI K T W (iZipK K va) (iZip2 l) := by
  intro g B ρ st σ H rel
  have h1 := good_izip hl g B ρ st σ H rel
  have h2 := good_izipM hl g B ρ st σ H rel
  unfold iZip at h1
  unfold iZipLT at h2
  unfold iZip2
  cases e : l st with
  | no => trivial
  | ex x s1 =>
    rw [e] at h1
    exact h1.conv fun Q q => .inl q
  | ok ds s1 =>
    rw [e] at h1 h2
    simp only [R.bind_ok] at h1 h2 ⊢
    split
    · exact h1.conv fun Q q => .inl q
    · exact h2.conv fun Q q => .inr q
    · trivial
theorem si_zip2 {X : Cx} {a b : Expr} {es : List Expr} {t : TA} {p p1 pos : Pos} {k} (hm : X.mg "zip" = none) (hl : SA X K T W [a, b] t l) (hg : Gl X "zip" := by rfl) (hs : starEach [a, b] X.env = (false, eval a X.env) :: starEach [b] X.env := by rfl) (hpl : (backTo pos (starEach [b] X.env)).any (·.1) = false := by rfl) (hK : X.K = K := by rfl) :
    SI X K T W (.Tuple es k p1) (.Call (.Name "zip" p) [a, b] [] pos) (iZipK K t) (iZip2 l) := by
  subst hK
  exact ⟨pi_zipK hg hm hl.pe hs hpl, good_izipK hl.good⟩
end
end Mini

set_option Elab.async false
set_option linter.all false
set_option maxRecDepth 100000
set_option maxHeartbeats 1000000
/-! PyX20: a piece reckoned without an end to what is ours. -/
namespace Mini
open PySem PySem.Spec PyProof.Rows L2
section
variable {K : PySem.W.Frag} {B B' : Hp} {ρ : List Addr}
mutual
theorem Rep.thin (h : ∀ a o, B a = some o → (∀ vs, o ≠ .lst vs) → B' a = some o) : ∀ {v : V} {d : D}, Rep K B ρ v d → d.noLst = true → Rep K B' ρ v d
  | _, _, .non, _ => .non
  | _, _, .bl b, _ => .bl b
  | _, _, .int i, _ => .int i
  | _, _, .str x, _ => .str x
  | _, _, .lst _ _, hn => by simp [D.noLst] at hn
  | _, _, .tup h1 r, hn => .tup (h _ _ h1 fun vs z => by cases z) (Reps.thin h r (by simpa [D.noLst] using hn))
  | _, _, .scr _, hn => by simp [D.noLst] at hn
  | _, _, .cell h1, _ => .cell h1
theorem Reps.thin (h : ∀ a o, B a = some o → (∀ vs, o ≠ .lst vs) → B' a = some o) : ∀ {vs : List V} {ds : List D}, Reps K B ρ vs ds → D.noLsts ds = true → Reps K B' ρ vs ds
  | _, _, .nil, _ => .nil
  | _, _, .cons r t, hn => by
    simp only [D.noLsts, Bool.and_eq_true] at hn
    exact .cons (Rep.thin h r hn.1) (Reps.thin h t hn.2)
end
theorem paired_drop {α β : Type} {R R' : α → β → Prop} : ∀ {xs : List α} {ys : List β}, Paired R xs ys → (∀ x y, y ∈ ys → R x y → R' x y) → Paired R' xs ys
  | _, _, .nil, _ => .nil
  | _, _, .cons h t, f => .cons (f _ _ List.mem_cons_self h) (paired_drop t fun x y hy => f x y (List.mem_cons_of_mem _ hy))
theorem CellR.thin (h : ∀ a o, B a = some o → (∀ vs, o ≠ .lst vs) → B' a = some o) {a : Addr} {c : Cell} {o : HO} (r : CellR K B ρ a c o) (hn : c.noLst = true) : CellR K B' ρ a c o := by
  cases c with
  | lst ds =>
    obtain ⟨vs, h1, h2⟩ := r
    exact ⟨vs, h1, h2.thin h hn⟩
  | dK kvs =>
    obtain ⟨kws, h1, h2⟩ := r
    simp only [Cell.noLst, List.all_eq_true] at hn
    exact ⟨kws, h1, paired_drop h2 fun x y hy z => ⟨z.1, z.2.thin h (hn y hy)⟩⟩
  | dT kvs =>
    obtain ⟨kws, h1, h2⟩ := r
    simp only [Cell.noLst, List.all_eq_true] at hn
    exact ⟨kws, h1, paired_drop h2 fun x y hy z => ⟨z.1, z.2.thin h (hn y hy)⟩⟩
  | tab P q' =>
    obtain ⟨e1, ps, e2, e3, e4⟩ := r
    exact ⟨e1, ps, e2, e3, fun pos cv hc => (e4 pos cv hc).elim fun c z => ⟨c, z.1, h _ _ z.2 fun vs w => lst_code w.symm⟩⟩
end
section
variable {K : PySem.W.Frag} {T : XT} {W : WX} {g : Gx} {B B2 : Hp} {ρ ρ2 : List Addr} {st : St} {om2 : List Cell} {σ : L2.St} {H H2 : Hp}
/-- what is ours, in a slot -/
def Ours (st : St) (σ : L2.St) (a : Addr) : Prop := ∃ (i : Nat) (ds : List D), st.env[i]? = some (some (.ow ds)) ∧ σ[i]? = some (some (.ref a))
open Classical in
noncomputable def lent (st : St) (σ : L2.St) (H B : Hp) : Hp := fun a => if Ours st σ a then H a else B a
theorem lent_in {a : Addr} (h : Ours st σ a) : lent st σ H B a = H a := by unfold lent; exact if_pos h
theorem lent_out {a : Addr} (h : ¬ Ours st σ a) : lent st σ H B a = B a := by unfold lent; exact if_neg h
open Classical in
noncomputable def unlent (st : St) (σ : L2.St) (B : Hp) : Hp := fun a => if Ours st σ a then none else B a
theorem unlent_in {a : Addr} (h : Ours st σ a) : unlent st σ B a = none := by unfold unlent; exact if_pos h
theorem unlent_out {a : Addr} (h : ¬ Ours st σ a) : unlent st σ B a = B a := by unfold unlent; exact if_neg h
theorem Rel.oursH (r : Rel K g B ρ st σ H) {a : Addr} (h : Ours st σ a) : ∃ vs, H a = some (.lst vs) := by
  obtain ⟨i, ds, e1, e2⟩ := h
  obtain ⟨p, vs, h1, h2, _⟩ := r.ownH e1
  rw [h1] at e2
  cases e2
  exact ⟨vs, h2⟩
theorem Rel.oursN (r : Rel K g B ρ st σ H) {a : Addr} (h : Ours st σ a) : B a = none ∧ g.P a = none ∧ a ∉ ρ := by
  obtain ⟨i, ds, e1, e2⟩ := h
  exact r.own i ds a e1 e2
/-- the state with all that is ours lent out -/
theorem Rel.lend (r : Rel K g B ρ st σ H) : Rel K ⟨lent st σ H B, lent st σ H g.P⟩ (lent st σ H B) ρ ⟨shareEnv st.env, st.om⟩ σ H := by
  have sb : Sub B (lent st σ H B) := fun a o e => by
    have : ¬ Ours st σ a := fun h => by rw [(r.oursN h).1] at e; cases e
    rw [lent_out this]; exact e
  refine ⟨by show (shareEnv st.env).length = _; unfold shareEnv; rw [List.length_map]; exact r.len, fun a o e => ?_, fun a o e => ?_, fun a ha => .inl ha, r.nd, r.cl, fun n c a h1 h2 => ?_, fun a ha => ?_, fun i v e => ?_, fun i ds p e _ => ?_, fun i j ds es p e _ _ _ => ?_, Sub.refl _, fun b ps e => ?_, fun b ps e => ?_⟩
  · by_cases h : Ours st σ a
    · rw [lent_in h] at e; exact e
    · rw [lent_out h] at e; exact r.sub a o e
  · have e : lent st σ H g.P a = some o := e
    by_cases h : Ours st σ a
    · rw [lent_in h] at e; exact e
    · rw [lent_out h] at e; exact r.prot a o e
  · obtain ⟨o, ho, hc⟩ := r.cell n c a h1 h2
    exact ⟨o, ho, hc.mono sb (Pre.refl _)⟩
  · have n : ¬ Ours st σ a := fun h => (r.oursN h).2.2 ha
    refine ⟨by rw [lent_out n]; exact (r.cellN a ha).1, ?_⟩
    show lent st σ H g.P a = none
    rw [lent_out n]; exact (r.cellN a ha).2
  · have e : (shareEnv st.env)[i]? = some (some v) := e
    unfold shareEnv at e
    rw [List.getElem?_map] at e
    cases e1 : st.env[i]? with
    | none => rw [e1] at e; cases e
    | some o =>
      rw [e1] at e
      cases o with
      | none => cases e
      | some w =>
        cases w with
        | sh d =>
          cases e
          obtain ⟨x, h1, h2⟩ := r.slot i _ e1
          have h2 : Rep K B ρ x d := h2
          exact ⟨x, h1, h2.mono sb (Pre.refl _)⟩
        | ow ds =>
          cases e
          obtain ⟨p, vs, h1, h2, h3⟩ := r.ownH e1
          exact ⟨.ref p, h1, .lst ((lent_in ⟨i, ds, e1, h1⟩).trans h2) (h3.mono sb (Pre.refl _))⟩
  all_goals
    have noOw : ∀ (i : Nat) (ds : List D), (shareEnv st.env)[i]? ≠ some (some (.ow ds)) := fun i ds e => by
      unfold shareEnv at e
      rw [List.getElem?_map] at e
      cases e1 : st.env[i]? with
      | none => rw [e1] at e; cases e
      | some o =>
        rw [e1] at e
        cases o with
        | none => cases e
        | some w => cases w <;> cases e
  · exact absurd e (noOw i ds)
  · exact absurd e (noOw i ds)
  · by_cases h : Ours st σ b
    · rw [lent_in h] at e
      obtain ⟨vs, z⟩ := r.oursH h
      rw [z] at e; cases e
    · rw [lent_out h] at e; exact r.tb b ps e
  · have e : lent st σ H g.P b = some (.tbl ps) := e
    by_cases h : Ours st σ b
    · rw [lent_in h] at e
      obtain ⟨vs, z⟩ := r.oursH h
      rw [z] at e; cases e
    · rw [lent_out h] at e; exact r.tp b ps e
/-- .. and back -/
theorem Rel.unlend (r : Rel K g B ρ st σ H) {s2 : St} (m : Mono (lent st σ H B) ρ B2 ρ2) (q : Rel K ⟨lent st σ H B, lent st σ H g.P⟩ B2 ρ2 s2 σ H2) (hn : s2.om.all Cell.noLst = true) :
    Rel K g (unlent st σ B2) ρ2 ⟨st.env, s2.om⟩ σ H2 ∧ Mono B ρ (unlent st σ B2) ρ2 ∧ ∀ a o, B2 a = some o → (∀ vs, o ≠ .lst vs) → unlent st σ B2 a = some o := by
  have lst : ∀ a, Ours st σ a → ∃ vs, B2 a = some (.lst vs) ∧ H2 a = some (.lst vs) := fun a h => by
    obtain ⟨vs, z⟩ := r.oursH h
    have := m.b a _ ((lent_in (B := B) h).trans z)
    exact ⟨vs, this, q.sub _ _ this⟩
  have dr : ∀ a o, B2 a = some o → (∀ vs, o ≠ .lst vs) → unlent st σ B2 a = some o := fun a o e ne => by
    have : ¬ Ours st σ a := fun h => by
      obtain ⟨vs, z, _⟩ := lst a h
      rw [z] at e
      cases e
      exact ne vs rfl
    rw [unlent_out this]; exact e
  have sb : Sub B (unlent st σ B2) := fun a o e => by
    have : ¬ Ours st σ a := fun h => by rw [(r.oursN h).1] at e; cases e
    rw [unlent_out this]
    exact m.b a o ((lent_out this).trans e)
  rw [List.all_eq_true] at hn
  refine ⟨⟨r.len, fun a o e => ?_, fun a o e => ?_, fun a ha => ?_, q.nd, q.cl, fun n c a h1 h2 => ?_, fun a ha => ?_, fun i v e => ?_, fun i ds p e1 e2 => ?_, r.uni, r.old.trans sb, fun b ps e => ?_, r.tp⟩, ⟨sb, m.r⟩, dr⟩
  · by_cases h : Ours st σ a
    · rw [unlent_in h] at e; cases e
    · rw [unlent_out h] at e; exact q.sub a o e
  · have : ¬ Ours st σ a := fun h => by rw [(r.oursN h).2.1] at e; cases e
    exact q.prot a o ((lent_out this).trans e)
  · by_cases h : Ours st σ a
    · rw [unlent_in h] at ha; exact absurd rfl ha
    · rw [unlent_out h] at ha
      rcases q.new a ha with z | z | ⟨qn, z⟩
      · have z : lent st σ H B a ≠ none := z
        rw [lent_out h] at z
        rcases r.new a z with z | z | ⟨qn, z⟩
        · exact .inl z
        · exact .inr (.inl z)
        · exact .inr (.inr ⟨qn, sb _ _ z⟩)
      · have z : lent st σ H g.P a = none := z
        rw [lent_out h] at z
        exact .inr (.inl z)
      · exact .inr (.inr ⟨qn, (unlent_out h).trans z⟩)
  · obtain ⟨o, ho, hc⟩ := q.cell n c a h1 h2
    exact ⟨o, ho, hc.thin dr (hn c (List.mem_of_getElem? h1))⟩
  · obtain ⟨z1, z2⟩ := q.cellN a ha
    have z2 : lent st σ H g.P a = none := z2
    by_cases h : Ours st σ a
    · exact ⟨unlent_in h, (r.oursN h).2.1⟩
    · rw [lent_out h] at z2
      exact ⟨(unlent_out h).trans z1, z2⟩
  · obtain ⟨x, h1, h2⟩ := r.slot i v e
    refine ⟨x, h1, ?_⟩
    cases v with
    | sh d => exact h2.mono sb m.r
    | ow ds =>
      obtain ⟨p, vs, rfl, h4, h5⟩ := h2
      have o : Ours st σ p := ⟨i, ds, e, h1⟩
      refine ⟨p, vs, rfl, ?_, h5.mono sb m.r⟩
      exact q.sub _ _ (m.b p _ ((lent_in o).trans h4))
  · have o : Ours st σ p := ⟨i, ds, e1, e2⟩
    refine ⟨unlent_in o, (r.oursN o).2.1, fun hm => ?_⟩
    have z : lent st σ H g.P p = none := (q.cellN p hm).2
    rw [lent_in o] at z
    obtain ⟨vs, w⟩ := r.oursH o
    rw [w] at z; cases z
  · by_cases h : Ours st σ b
    · rw [unlent_in h] at e; cases e
    · rw [unlent_out h] at e; exact q.tb b ps e
theorem good_keep {t : TE} {e : EvE} (h : GoodE K T W t e) : GoodE K T W t (eKeep e) := by
  intro g B ρ st σ H rel
  have z := h _ _ _ _ _ _ rel.lend
  unfold eKeep
  cases er : e ⟨shareEnv st.env, st.om⟩ with
  | no => trivial
  | ex x s1 => trivial
  | ok v s1 =>
    rw [er] at z
    show Res K T W g B ρ σ (t σ H) (oV K g σ) (if v.d.noLst && s1.om.all Cell.noLst then .ok (.sh v.d) ⟨st.env, s1.om⟩ else .no)
    split
    · rename_i hc
      rw [Bool.and_eq_true] at hc
      refine fun Q hQ => z _ fun B2 ρ2 x H2 m q o => ?_
      obtain ⟨r3, m3, dr⟩ := rel.unlend m q hc.2
      cases v with
      | sh d =>
        have o : Rep K B2 ρ2 x d := o
        exact hQ _ _ _ _ m3 r3 (o.thin dr hc.1)
      | ow ds => simp [Vl.d, D.noLst] at hc
    · trivial
theorem good_tkeep {t : TT} {e : EvT} (h : GoodT K T W t e) : GoodT K T W t (tKeep e) := by
  intro g B ρ st σ H rel
  have z := h _ _ _ _ _ _ rel.lend
  unfold tKeep
  cases er : e ⟨shareEnv st.env, st.om⟩ with
  | no => trivial
  | ex x s1 => trivial
  | ok v s1 =>
    rw [er] at z
    show Res K T W g B ρ σ (t σ H) oB (if s1.om.all Cell.noLst then .ok v ⟨st.env, s1.om⟩ else .no)
    split
    · rename_i hc
      refine fun Q hQ => z _ fun B2 ρ2 x H2 m q o => ?_
      obtain ⟨r3, m3, _⟩ := rel.unlend m q hc
      exact hQ _ _ _ _ m3 r3 o
    · trivial
theorem s_keep {X : Cx} {a : Expr} {t : TE} {e : EvE} (h : SE X K T W a t e) : SE X K T W a t (eKeep e) := ⟨h.pe, good_keep h.good⟩
theorem st_keep {X : Cx} {a : Expr} {t : TT} {e : EvT} (h : ST X K T W a t e) : ST X K T W a t (tKeep e) := ⟨h.pe, good_tkeep h.good⟩
end
end Mini

set_option Elab.async false
set_option linter.all false
set_option maxRecDepth 100000
set_option maxHeartbeats 1000000
/-! PyX21: divmod; sorted, min, max of lists of plain data; what is read backwards. -/
namespace Mini
open PySem PySem.Spec PyProof.Rows L2
/-! ### plain data -/
mutual
theorem pyd_py : ∀ d : D, d.pyd = d.py
  | .non => rfl
  | .bl b => rfl
  | .int i => rfl
  | .str x => rfl
  | .lst xs => by simp only [D.pyd, D.py, pyds_pys xs]
  | .tup xs => by simp only [D.pyd, D.py, pyds_pys xs]
  | .scr _ => rfl
  | .cell _ => rfl
theorem pyds_pys : ∀ ds : List D, D.pyds ds = D.pys ds
  | [] => rfl
  | d :: ds => by simp only [D.pyds, D.pys, pyd_py d, pyds_pys ds]
end
theorem pys_map : ∀ ds : List D, D.pys ds = ds.map D.py
  | [] => rfl
  | d :: ds => by simp only [D.pys, List.map_cons, pys_map ds]
mutual
theorem py_inj : ∀ (n m : Nat) (d e : D), d.fine n = true → e.fine m = true → d.py = e.py → d = e
  | n, m, d, e, hd, he, h => by
    cases d with
    | scr _ => unfold D.fine at hd; split at hd <;> simp_all
    | cell _ => unfold D.fine at hd; split at hd <;> simp_all
    | lst xs =>
      cases e with
      | lst ys =>
        cases n with
        | zero => simp [D.fine] at hd
        | succ n =>
          cases m with
          | zero => simp [D.fine] at he
          | succ m =>
            simp only [D.fine] at hd he
            simp only [D.py, PyData.list.injEq] at h
            rw [pys_inj n m xs ys hd he h]
      | scr _ => unfold D.fine at he; split at he <;> simp_all
      | cell _ => unfold D.fine at he; split at he <;> simp_all
      | _ => simp [D.py] at h
    | tup xs =>
      cases e with
      | tup ys =>
        cases n with
        | zero => simp [D.fine] at hd
        | succ n =>
          cases m with
          | zero => simp [D.fine] at he
          | succ m =>
            simp only [D.fine] at hd he
            simp only [D.py, PyData.tuple.injEq] at h
            rw [pys_inj n m xs ys hd he h]
      | scr _ => unfold D.fine at he; split at he <;> simp_all
      | cell _ => unfold D.fine at he; split at he <;> simp_all
      | _ => simp [D.py] at h
    | _ =>
      cases e with
      | scr _ => unfold D.fine at he; split at he <;> simp_all
      | cell _ => unfold D.fine at he; split at he <;> simp_all
      | _ => simp_all [D.py]
theorem pys_inj : ∀ (n m : Nat) (ds es : List D), D.fines n ds = true → D.fines m es = true → D.pys ds = D.pys es → ds = es
  | n, m, [], [], _, _, _ => rfl
  | n, m, [], _ :: _, _, _, h => by simp [D.pys] at h
  | n, m, _ :: _, [], _, _, h => by simp [D.pys] at h
  | n, m, d :: ds, e :: es, hd, he, h => by
    simp only [D.fines, Bool.and_eq_true] at hd he
    simp only [D.pys, List.cons.injEq] at h
    rw [py_inj n m d e hd.1 he.1 h.1, pys_inj n m ds es hd.2 he.2 h.2]
end
theorem fines_mem {n : Nat} : ∀ {xs : List D}, D.fines n xs = true → ∀ x ∈ xs, x.fine n = true
  | [], _, x, hx => by simp at hx
  | y :: xs, h, x, hx => by
    simp only [D.fines, Bool.and_eq_true] at h
    rcases List.mem_cons.mp hx with rfl | hx
    · exact h.1
    · exact fines_mem h.2 x hx
theorem alike_of {xs : List D} (h : allAlike xs = true) : PySem.W.AllAlike (D.pys xs) := by
  unfold allAlike at h
  rw [List.all_eq_true] at h
  intro d hd d' hd'
  rw [pys_map] at hd hd'
  obtain ⟨x, hx, rfl⟩ := List.mem_map.mp hd
  obtain ⟨y, hy, rfl⟩ := List.mem_map.mp hd'
  have := List.all_eq_true.mp (h x hx) y hy
  rwa [pyd_py, pyd_py] at this
theorem sortable_of {xs : List D} (h : sortable xs = true) : PySem.W.Sortable (D.pys xs) := by
  unfold sortable at h
  rw [Bool.or_eq_true, List.all_eq_true, List.all_eq_true] at h
  rw [pys_map]
  rcases h with h | h
  · refine .inl fun d hd => ?_
    obtain ⟨x, hx, rfl⟩ := List.mem_map.mp hd
    have := h x hx
    cases x with
    | tup ys => cases ys with
      | nil => simp [D.isTupC] at this
      | cons y ys => exact ⟨y.py, D.pys ys, by simp only [D.py, D.pys]⟩
    | _ => simp [D.isTupC] at this
  · refine .inr fun d hd => ?_
    obtain ⟨x, hx, rfl⟩ := List.mem_map.mp hd
    have := h x hx
    cases x <;> simp_all [D.isTupN, D.py]
theorem depth_all {xs : List D} (h : D.fines 19 xs = true) : PyData.depthAll (D.pys xs) ≤ 21 := by
  have := (fines_lay 19 xs h).2
  omega
theorem depth_one {x : D} (h : x.fine 19 = true) : x.py.depth ≤ 21 := by
  have := (fine_lay 19 x h).2
  omega
/-! ### the calls -/
section
variable {X : Cx}
theorem call_divmodN : CallR X (.builtin "divmod") (fun xs H Q => ∃ i j : Int, xs = [V.int i, V.int j] ∧ j ≠ 0 ∧ j.natAbs < 1073741824 ∧ ∀ p, H p = none → Q (V.ref p) (upd H p (.tup [.int (i.fdiv j), .int (i.fmod j)]))) := by
  intro pins s σ H xs us Q I r h
  obtain ⟨i, j, rfl, h1, h2, q⟩ := h
  obtain ⟨u, w', rfl, ⟨t, rfl⟩, ⟨t', rfl⟩⟩ := vals2 r
  refine divmod_int h1 ?_ (.inl (PyProof.noPylong_small h2))
  have fr : H s.heap.objs.size = none := I.hok.fresh (Nat.le_refl _)
  refine ⟨.ref s.heap.objs.size, _, I.laid (o := .tup [.int (i.fdiv j), .int (i.fmod j)]) (fun b o e => Heap.get?_push_of_some _ e) (Nat.le_refl _) ⟨by show 2 ≤ sizeLine; decide, [.int (i.fdiv j) s.toks, .int (i.fmod j) (s.toks + 1)], .cons ⟨_, rfl⟩ (.cons ⟨_, rfl⟩ .nil), ?_⟩, rfl, q _ fr⟩
  exact ⟨_, Heap.get?_push_size s.heap rfl, rfl, 0, rfl⟩
theorem each_vals {K : PySem.W.Frag} : ∀ {xs : List V} {its : List Value} {ds : List PyData}, Vals xs its → xs.length = ds.length → PySem.W.EachIs (fun u (b : V × PyData) => RelV b.1 u) its (xs.zip ds)
  | _, _, [], .nil, _ => .nil
  | _, _, [], .cons _ _, h => by simp at h
  | _, _, _ :: _, .nil, h => by simp at h
  | _, _, d :: ds, .cons r t, h => .cons r (each_vals (K := K) t (by simpa using h))
theorem dpAll_len {K : PySem.W.Frag} {H : Hp} : ∀ {xs : List V} {ds : List PyData}, DpAll K H xs ds → xs.length = ds.length
  | _, _, .nil => rfl
  | _, _, .cons _ t => by rw [List.length_cons, List.length_cons, dpAll_len t]
theorem each_reads {pins : List (Addr × Obj)} {σ : L2.St} {H : Hp} {s : Shared} (I : Inv X pins σ H s) : ∀ {xs : List V} {its : List Value} {ds : List PyData}, Vals xs its → DpAll X.K H xs ds → PySem.W.EachIs (fun u (b : V × PyData) => ∃ as, Reads s.heap u b.2 as) its (xs.zip ds)
  | _, _, _, .nil, .nil => .nil
  | _, _, _, .cons r t, .cons d ds => .cons (Dp.reads I _ _ _ d r) (each_reads I t ds)
theorem vals_each : ∀ {out : List Value} {zs : List (V × PyData)}, PySem.W.EachIs (fun u (b : V × PyData) => RelV b.1 u) out zs → Vals (zs.map (·.1)) out
  | _, _, .nil => .nil
  | _, _, .cons h t => .cons h (vals_each t)
def rSortD (K : PySem.W.Frag) : List V → Hp → VK → Prop := fun vs H Q => ∃ (a : Addr) (xs : List V) (ds : List PyData), vs = [V.ref a] ∧ SqL K H a xs ∧ DpAll K H xs ds ∧ PySem.W.AllAlike ds ∧ PySem.W.Sortable ds ∧ (∀ d ∈ ds, d.depth ≤ 21) ∧
  ∀ p, H p = none → Q (.ref p) (upd H p (.lst (((xs.zip ds).mergeSort (PySem.W.dataLe false Prod.snd)).map (·.1))))
theorem cr_sortedD (hu : X.A.units + 65 < cLine) : CallR X (.builtin "sorted") (rSortD X.K) := by
  intro pins s σ H vs us Q I r h
  obtain ⟨a, xs, ds, rfl, hs, hd, hal, hk, hdp, q⟩ := h
  obtain ⟨its, rv, hl, hz⟩ := I.list hs
  obtain ⟨u, rfl, ru⟩ := vals1 r
  obtain rfl : u = Value.ref a := ru
  have len := dpAll_len hd
  have em : (xs.zip ds).map Prod.snd = ds := by rw [List.map_snd_zip]; omega
  refine PySem.W.sorted_data (bs := xs.zip ds) (enc := Prod.snd) hl.isList (each_vals (K := X.K) rv len) (each_reads I rv hd) (by rw [em]; exact hal) (by rw [em]; exact hk) (by rw [List.length_zip]; omega) (fun b hb => ?_) fun out hlen hout => ?_
  · have := hdp b.2 (by rw [← em]; exact List.mem_map.mpr ⟨b, hb, rfl⟩)
    omega
  · obtain ⟨ep, he⟩ := PyProof.Rows.sortedAll_at s.heap its (List.toArray out)
    refine ⟨.ref _, _, I.laid (t' := s.toks) (o := .lst (((xs.zip ds).mergeSort (PySem.W.dataLe false Prod.snd)).map (·.1))) (fun _ _ => PyProof.Rows.sortedAll_old) (Nat.le_succ _) ⟨?_, out, ep, vals_each hout, he⟩, rfl, q _ (I.hok.fresh (Nat.le_succ _))⟩
    rw [List.length_map, List.length_mergeSort, List.length_zip]
    omega
theorem minD_mem (x : PyData) : ∀ xs : List PyData, PySem.W.minD x xs ∈ x :: xs := by
  intro xs
  unfold PySem.W.minD
  induction xs generalizing x with
  | nil => simp
  | cons y xs ih =>
    rw [List.foldl_cons]
    have := ih (if PySem.W.dataLt y x then y else x)
    rcases List.mem_cons.mp this with h | h
    · rw [h]; split <;> simp
    · exact List.mem_cons_of_mem _ (List.mem_cons_of_mem _ h)
def rMinD (K : PySem.W.Frag) (m : PyData → List PyData → PyData) : List V → Hp → VK → Prop := fun vs H Q => ∃ (a : Addr) (xs : List V) (d : PyData) (ds : List PyData), vs = [V.ref a] ∧ SqL K H a xs ∧ DpAll K H xs (d :: ds) ∧ PySem.W.AlikeAll (d :: ds) ∧ PyData.depthAll (d :: ds) ≤ 21 ∧
  ∀ (i : Nat) (x : V) (e : PyData), xs[i]? = some x → (d :: ds)[i]? = some e → e = m d ds → Q x H
theorem dp_get {K : PySem.W.Frag} {H : Hp} : ∀ {xs : List V} {ds : List PyData} {i : Nat} {x : V}, DpAll K H xs ds → xs[i]? = some x → ∃ d, ds[i]? = some d ∧ Dp K H x d
  | _, _, i, x, .nil, h => by simp at h
  | _, _, 0, x, .cons r _, h => by simp at h; subst h; exact ⟨_, rfl, r⟩
  | _, _, i + 1, x, .cons _ t, h => by
    obtain ⟨d, h1, h2⟩ := dp_get (i := i) t (by simpa using h)
    exact ⟨d, by simpa using h1, h2⟩
theorem vals_get' : ∀ {xs : List V} {us : List Value} {i : Nat} {u : Value}, Vals xs us → us[i]? = some u → ∃ x, xs[i]? = some x ∧ RelV x u
  | _, _, i, u, .nil, h => by simp at h
  | _, _, 0, u, .cons r _, h => by simp at h; subst h; exact ⟨_, rfl, r⟩
  | _, _, i + 1, u, .cons _ t, h => by
    obtain ⟨d, h1, h2⟩ := vals_get' (i := i) t (by simpa using h)
    exact ⟨d, by simpa using h1, h2⟩
theorem cr_minD (hc : X.calm = true) (hu : X.A.units + 65 < cLine) : CallR X (.builtin "min") (rMinD X.K PySem.W.minD) := by
  intro pins s σ H vs us Q I r h
  obtain ⟨a, xs, d, ds, rfl, hs, hd, hal, hdp, q⟩ := h
  obtain ⟨its, rv, hl, hz⟩ := I.list hs
  obtain ⟨u, rfl, ru⟩ := vals1 r
  obtain rfl : u = Value.ref a := ru
  obtain ⟨as, hr⟩ := Dp.readsAll I _ _ _ hd rv
  refine PySem.W.min_list_data (I.ok.hd hc) hl.isList hr hal (by omega) fun i v h' tk bs hv hrd hk => ?_
  obtain ⟨x, hx, rx⟩ := vals_get' rv (by simpa using hv)
  obtain ⟨e, he, hde⟩ := dp_get hd hx
  obtain ⟨as2, r2⟩ := Dp.reads I _ _ _ hde rx
  have eq : e = PySem.W.minD d ds := PySem.W.alike_unique _ _ _ _ _ (hal.1 _ (List.mem_of_getElem? he) _ (minD_mem d ds)) (PySem.W.reads_keeps hk r2) hrd
  exact ⟨x, H, I.kept hk, rx, q i x e hx he eq⟩
theorem maxD_mem (x : PyData) : ∀ xs : List PyData, PySem.W.maxD x xs ∈ x :: xs := by
  intro xs
  unfold PySem.W.maxD
  induction xs generalizing x with
  | nil => simp
  | cons y xs ih =>
    rw [List.foldl_cons]
    have := ih (if PySem.W.dataLt x y then y else x)
    rcases List.mem_cons.mp this with h | h
    · rw [h]; split <;> simp
    · exact List.mem_cons_of_mem _ (List.mem_cons_of_mem _ h)
theorem cr_maxD (hc : X.calm = true) (hu : X.A.units + 65 < cLine) : CallR X (.builtin "max") (rMinD X.K PySem.W.maxD) := by
  intro pins s σ H vs us Q I r h
  obtain ⟨a, xs, d, ds, rfl, hs, hd, hal, hdp, q⟩ := h
  obtain ⟨its, rv, hl, hz⟩ := I.list hs
  obtain ⟨u, rfl, ru⟩ := vals1 r
  obtain rfl : u = Value.ref a := ru
  obtain ⟨as, hr⟩ := Dp.readsAll I _ _ _ hd rv
  refine PySem.W.max_list_data (I.ok.hd hc) hl.isList hr hal (by omega) fun i v h' tk bs hv hrd hk => ?_
  obtain ⟨x, hx, rx⟩ := vals_get' rv (by simpa using hv)
  obtain ⟨e, he, hde⟩ := dp_get hd hx
  obtain ⟨as2, r2⟩ := Dp.reads I _ _ _ hde rx
  have eq : e = PySem.W.maxD d ds := PySem.W.alike_unique _ _ _ _ _ (hal.1 _ (List.mem_of_getElem? he) _ (maxD_mem d ds)) (PySem.W.reads_keeps hk r2) hrd
  exact ⟨x, H, I.kept hk, rx, q i x e hx he eq⟩
end
end Mini

set_option Elab.async false
set_option linter.all false
set_option maxRecDepth 100000
set_option maxHeartbeats 1000000
/-! PyX22: their rules. -/
namespace Mini
open PySem PySem.Spec PyProof.Rows L2
section
variable {K : PySem.W.Frag} {B : Hp} {ρ : List Addr}
def rDivN : List V → Hp → VK → Prop := fun xs H Q => ∃ i j : Int, xs = [V.int i, V.int j] ∧ j ≠ 0 ∧ j.natAbs < 1073741824 ∧ ∀ p, H p = none → Q (V.ref p) (upd H p (.tup [.int (i.fdiv j), .int (i.fmod j)]))
theorem callG_divmod : CallG K rDivN bDivmod := by
  intro g B ρ st σ H xs ds v rel r hf Q q
  unfold bDivmod at hf
  split at hf
  · rename_i i j
    split at hf
    · rename_i hc
      cases hf
      cases r with
      | cons r rr =>
        cases rr with
        | cons r' rr =>
          cases rr; cases r; cases r'
          refine ⟨i, j, rfl, hc.1, hc.2.2, fun p hp => ?_⟩
          exact q _ _ _ (Sub.new rel hp) (rel.imm hp) (.tup upd_same (.cons (.int _) (.cons (.int _) .nil)))
    · cases hf
  · cases hf
/-- pairs of values and data that are sorted together -/
theorem reps_pairs : ∀ {zs : List (V × D)}, (∀ z ∈ zs, Rep K B ρ z.1 z.2) → Reps K B ρ (zs.map (·.1)) (zs.map (·.2))
  | [], _ => .nil
  | z :: zs, h => .cons (h z List.mem_cons_self) (reps_pairs fun y hy => h y (List.mem_cons_of_mem _ hy))
theorem rep_zip : ∀ {vs : List V} {ds : List D}, Reps K B ρ vs ds → ∀ z ∈ vs.zip ds, Rep K B ρ z.1 z.2
  | _, _, .nil, z, hz => by simp at hz
  | _, _, .cons r t, z, hz => by
    rw [List.zip_cons_cons] at hz
    rcases List.mem_cons.mp hz with rfl | hz
    · exact r
    · exact rep_zip t z hz
theorem zip_pys : ∀ (vs : List V) (ys : List D), vs.zip (D.pys ys) = (vs.zip ys).map fun z => (z.1, z.2.py)
  | [], _ => rfl
  | _ :: _, [] => rfl
  | v :: vs, y :: ys => by
    simp only [D.pys, List.zip_cons_cons, List.map_cons, zip_pys vs ys]
theorem callG_sort : CallG K (rSortD K) bSort := by
  intro g B ρ st σ H xs ds v rel r hf Q q
  unfold bSort at hf
  split at hf
  · rename_i ys
    split at hf
    · rename_i hc
      cases hf
      simp only [Bool.and_eq_true] at hc
      obtain ⟨hf1, ha, hs, hm⟩ := hc
      cases r with
      | cons r rr =>
        cases rr
        cases r with
        | @lst a vs _ h1 r1 =>
          have hfin : D.fines 19 ys = true := hf1
          have dp := Reps.dp rel.sub 19 _ _ r1 hfin
          refine ⟨a, vs, D.pys ys, rfl, SqL.of (rel.sub _ _ h1), dp, alike_of ha, sortable_of hs, fun d hd => ?_, fun p hp => ?_⟩
          · rw [pys_map] at hd
            obtain ⟨x, hx, rfl⟩ := List.mem_map.mp hd
            exact depth_one (fines_mem hfin x hx)
          · have len := r1.length
            have e1 : (vs.zip (D.pys ys)) = (vs.zip ys).map fun z => (z.1, z.2.py) := zip_pys vs ys
            have e2 : (vs.zip (D.pys ys)).mergeSort (PySem.W.dataLe false Prod.snd) = ((vs.zip ys).mergeSort fun x y => !PySem.W.dataLt y.2.py x.2.py).map fun z => (z.1, z.2.py) := by
              rw [e1]
              exact (List.map_mergeSort (f := fun z : V × D => (z.1, z.2.py)) (r := fun x y : V × D => !PySem.W.dataLt y.2.py x.2.py) (s := PySem.W.dataLe false Prod.snd) (l := vs.zip ys) fun a _ b _ => rfl).symm
            have e3 : dsort ys = ((vs.zip ys).mergeSort fun x y => !PySem.W.dataLt y.2.py x.2.py).map (·.2) := by
              have : ys = (vs.zip ys).map (·.2) := by rw [List.map_snd_zip]; omega
              conv => lhs; rw [this]
              unfold dsort
              refine (List.map_mergeSort fun a _ b _ => ?_).symm
              show _ = !PySem.W.dataLt b.2.pyd a.2.pyd
              rw [pyd_py, pyd_py]
            have e4 : ((vs.zip (D.pys ys)).mergeSort (PySem.W.dataLe false Prod.snd)).map (·.1) = ((vs.zip ys).mergeSort fun x y => !PySem.W.dataLt y.2.py x.2.py).map (·.1) := by
              rw [e2, List.map_map]
              rfl
            rw [e4]
            have rr : Reps K B ρ (((vs.zip ys).mergeSort fun x y => !PySem.W.dataLt y.2.py x.2.py).map (·.1)) (dsort ys) := by
              rw [e3]
              exact reps_pairs fun z hz => rep_zip r1 z ((List.mergeSort_perm _ _).mem_iff.mp hz)
            obtain ⟨r', o'⟩ := out_new rel hp rr
            exact q B _ _ (Sub.refl _) r' o'
    · cases hf
  · cases hf
theorem dmin_py : ∀ (xs : List D) (x : D), (dmin x xs).py = PySem.W.minD x.py (D.pys xs)
  | [], x => rfl
  | y :: xs, x => by
    have ih := dmin_py xs (if D.lt y x = true then y else x)
    have e : dmin x (y :: xs) = dmin (if D.lt y x = true then y else x) xs := rfl
    rw [e, ih]
    unfold PySem.W.minD
    simp only [D.pys, List.foldl_cons]
    congr 1
    unfold D.lt
    rw [pyd_py, pyd_py]
    split <;> rfl
theorem dmax_py : ∀ (xs : List D) (x : D), (dmax x xs).py = PySem.W.maxD x.py (D.pys xs)
  | [], x => rfl
  | y :: xs, x => by
    have ih := dmax_py xs (if D.lt x y = true then y else x)
    have e : dmax x (y :: xs) = dmax (if D.lt x y = true then y else x) xs := rfl
    rw [e, ih]
    unfold PySem.W.maxD
    simp only [D.pys, List.foldl_cons]
    congr 1
    unfold D.lt
    rw [pyd_py, pyd_py]
    split <;> rfl
theorem dmin_mem : ∀ (xs : List D) (x : D), dmin x xs ∈ x :: xs
  | [], x => by simp [dmin]
  | y :: xs, x => by
    have e : dmin x (y :: xs) = dmin (if D.lt y x = true then y else x) xs := rfl
    rw [e]
    have := dmin_mem xs (if D.lt y x = true then y else x)
    rcases List.mem_cons.mp this with h | h
    · rw [h]; split <;> simp
    · exact List.mem_cons_of_mem _ (List.mem_cons_of_mem _ h)
theorem dmax_mem : ∀ (xs : List D) (x : D), dmax x xs ∈ x :: xs
  | [], x => by simp [dmax]
  | y :: xs, x => by
    have e : dmax x (y :: xs) = dmax (if D.lt x y = true then y else x) xs := rfl
    rw [e]
    have := dmax_mem xs (if D.lt x y = true then y else x)
    rcases List.mem_cons.mp this with h | h
    · rw [h]; split <;> simp
    · exact List.mem_cons_of_mem _ (List.mem_cons_of_mem _ h)
theorem alikeAll_of {xs : List D} (h : allAlike xs = true) (hf : D.fines 19 xs = true) (hn : (xs.all fun y => !y.isNon) = true) : PySem.W.AlikeAll (D.pys xs) := by
  refine ⟨fun d hd d' hd' => alike_of h d hd d' hd', fun d hd => ?_⟩
  rw [pys_map] at hd
  obtain ⟨x, hx, rfl⟩ := List.mem_map.mp hd
  have h1 := fines_mem hf x hx
  have h2 := List.all_eq_true.mp hn x hx
  cases x with
  | non => simp [D.isNon] at h2
  | scr _ => unfold D.fine at h1; split at h1 <;> simp_all
  | cell _ => unfold D.fine at h1; split at h1 <;> simp_all
  | _ => simp [D.py]
theorem callG_best {b : OpA} {m : PyData → List PyData → PyData} {dm : D → List D → D} (hb : ∀ ds v, b ds = some v → ∃ x xs, ds = [.lst (x :: xs)] ∧ ((D.lst (x :: xs)).fine deep && (allAlike (x :: xs) && (x :: xs).all fun y => !y.isNon)) = true ∧ v = .sh (dm x xs)) (hp : ∀ xs x, (dm x xs).py = m x.py (D.pys xs)) (hm : ∀ xs x, dm x xs ∈ x :: xs) : CallG K (rMinD K m) b := by
  intro g B ρ st σ H xs ds v rel r hf Q q
  obtain ⟨x, ys, rfl, hc, rfl⟩ := hb _ _ hf
  simp only [Bool.and_eq_true] at hc
  obtain ⟨hf1, ha, hn⟩ := hc
  have hfin : D.fines 19 (x :: ys) = true := hf1
  cases r with
  | cons r rr =>
    cases rr
    cases r with
    | @lst a vs _ h1 r1 =>
      have dp := Reps.dp rel.sub 19 _ _ r1 hfin
      refine ⟨a, vs, x.py, D.pys ys, rfl, SqL.of (rel.sub _ _ h1), dp, alikeAll_of ha hfin hn, depth_all hfin, fun i u e hu he eq => ?_⟩
      have hi : i < (x :: ys).length := by
        rw [← r1.length]; exact (List.getElem?_eq_some_iff.mp hu).1
      obtain ⟨u', hu', ru⟩ := r1.get (List.getElem?_eq_getElem hi)
      rw [hu] at hu'
      cases hu'
      have e1 : (x :: ys)[i].py = e := by
        have : (D.pys (x :: ys))[i]? = some e := he
        rw [pys_map, List.getElem?_map, List.getElem?_eq_getElem hi] at this
        exact Option.some.inj this
      have e2 : (x :: ys)[i] = dm x ys := py_inj 19 19 _ _ (fines_mem hfin _ (List.getElem_mem hi)) (fines_mem hfin _ (hm ys x)) (by rw [e1, eq, hp])
      rw [e2] at ru
      exact q B _ _ (Sub.refl _) rel ru
theorem callG_minL : CallG K (rMinD K PySem.W.minD) bMinL := callG_best (dm := dmin) (fun ds v h => by
  unfold bMinL at h
  split at h
  · split at h
    · rename_i x xs hc
      cases h
      exact ⟨_, _, rfl, hc, rfl⟩
    · cases h
  · cases h) dmin_py dmin_mem
theorem callG_maxL : CallG K (rMinD K PySem.W.maxD) bMaxL := callG_best (dm := dmax) (fun ds v h => by
  unfold bMaxL at h
  split at h
  · split at h
    · rename_i x xs hc
      cases h
      exact ⟨_, _, rfl, hc, rfl⟩
    · cases h
  · cases h) dmax_py dmax_mem
end
section
variable {X : Cx} {K : PySem.W.Frag} {T : XT} {W : WX} {e e2 : Expr} {t : TA} {l : EvA} {te : TE} {ve : EvE} {p pos p1 p2 p3 : Pos} {k : Nat}
theorem Reps.rev {B : Hp} {ρ : List Addr} : ∀ {vs : List V} {ds : List D}, Reps K B ρ vs ds → Reps K B ρ vs.reverse ds.reverse
  | _, _, .nil => .nil
  | _, _, .cons r t => by
    rw [List.reverse_cons, List.reverse_cons]
    exact (Reps.rev t).append (Reps.one r)
theorem b_sorted : bootBuiltins "sorted" = some (.builtin "sorted") := by decide +kernel
theorem b_divmod : bootBuiltins "divmod" = some (.builtin "divmod") := by decide +kernel
theorem s_divmod (hm : X.mg "divmod" = none) (hl : SA X K T W [e, e2] t l) (hg : Gl X "divmod" := by rfl) (he : starEach [e, e2] X.env = (false, eval e X.env) :: starEach [e2] X.env := by rfl) (hpl : (backTo pos (starEach [e2] X.env)).any (·.1) = false := by rfl) (hK : X.K = K := by rfl) :
    SE X K T W (.Call (.Name "divmod" p) [e, e2] [] pos) (tCB rDivN t) (eB bDivmod l) := by
  subst hK
  exact s_b call_divmodN callG_divmod b_divmod hm hl hg (by decide) (by decide) he hpl
theorem s_sorted (hu : X.A.units + 65 < cLine) (hm : X.mg "sorted" = none) (hl : SA X K T W [e] t l) (hg : Gl X "sorted" := by rfl) (he : starEach [e] X.env = (false, eval e X.env) :: starEach [] X.env := by rfl) (hK : X.K = K := by rfl) : SE X K T W (.Call (.Name "sorted" p) [e] [] pos) (tCB (rSortD K) t) (eB bSort l) := by
  subst hK
  exact s_b (cr_sortedD hu) callG_sort b_sorted hm hl hg (by decide) (by decide) he rfl
theorem s_minL (hc : X.calm = true) (hu : X.A.units + 65 < cLine) (hm : X.mg "min" = none) (hl : SA X K T W [e] t l) (hg : Gl X "min" := by rfl) (he : starEach [e] X.env = (false, eval e X.env) :: starEach [] X.env := by rfl) (hK : X.K = K := by rfl) : SE X K T W (.Call (.Name "min" p) [e] [] pos) (tCB (rMinD K PySem.W.minD) t) (eB bMinL l) := by
  subst hK
  exact s_b (cr_minD hc hu) callG_minL b_min hm hl hg (by decide) (by decide) he rfl
theorem s_maxL (hc : X.calm = true) (hu : X.A.units + 65 < cLine) (hm : X.mg "max" = none) (hl : SA X K T W [e] t l) (hg : Gl X "max" := by rfl) (he : starEach [e] X.env = (false, eval e X.env) :: starEach [] X.env := by rfl) (hK : X.K = K := by rfl) : SE X K T W (.Call (.Name "max" p) [e] [] pos) (tCB (rMinD K PySem.W.maxD) t) (eB bMaxL l) := by
  subst hK
  exact s_b (cr_maxD hc hu) callG_maxL b_max hm hl hg (by decide) (by decide) he rfl
theorem s_rev (he : SE X K T W e te ve) (hK : X.K = K := by rfl) : SE X K T W (.Subscript e (.Slice none none (some (.UnaryOp .USub (.Constant (.int 1) k p1) p2)) p3) pos) (tRevL K te) (eRev ve) := by
  subst hK
  refine ⟨pe_revL he.pe, ?_⟩
  intro g B ρ st σ H rel
  unfold eRev tRevL
  refine Res.bind (U := te σ H) (U2 := fun (x : V) (H1 : Hp) (Q : VK) => ∃ a xs, x = V.ref a ∧ SqL X.K H1 a xs ∧ ∀ p, H1 p = none → Q (V.ref p) (upd H1 p (.lst xs.reverse))) (O := oD X.K) (he.good.share rel) fun v s1 B1 ρ1 x H1 _ m1 r1 o1 => ?_
  have o1 : Rep X.K B1 ρ1 x v.d := o1
  split
  · rename_i ys hd
    rw [hd] at o1
    cases o1 with
    | @lst a vs _ h1 r =>
      refine fun Q hQ => ⟨a, vs, rfl, SqL.of (r1.sub _ _ h1), fun p hp => ?_⟩
      obtain ⟨r', o'⟩ := out_new r1 hp (Reps.rev r)
      exact hQ B1 ρ1 _ _ (Mono.refl _ _) r' o'
  · trivial
end
end Mini

set_option Elab.async false
set_option linter.all false
set_option maxRecDepth 100000
set_option maxHeartbeats 1000000
/-! PyX23: tuple[::-1]; two stores at once into lists of our own. -/
namespace HT
open PySem PySem.Spec PyProof.Rows
section
variable {prog : Program} {w : World} {A : Around} {E : Value → Shared → Prop} {s : Shared}
theorem adjust_back (n : Nat) : Builtin.Slice.sliceAdjust none none (-1) (n : Int) = ((n : Int) - 1, -1) := by
  unfold Builtin.Slice.sliceAdjust
  have h1 : ((-1 : Int) < 0) := by omega
  simp only [h1, if_true]
theorem places_back (n : Nat) : Builtin.Slice.slicePlaces ((n : Int) - 1) (-1) (-1) = n := by
  unfold Builtin.Slice.slicePlaces
  have h1 : ¬ ((-1 : Int) > 0) := by omega
  simp only [h1, if_false, Int.neg_neg, Int.ediv_one]
  repeat' split
  all_goals omega
theorem fm_congr {α β : Type} {f g : α → Option β} : ∀ {l : List α}, (∀ m ∈ l, f m = g m) → l.filterMap f = l.filterMap g
  | [], _ => rfl
  | x :: l, h => by
    rw [List.filterMap_cons, List.filterMap_cons, h x List.mem_cons_self, fm_congr fun m hm => h m (List.mem_cons_of_mem _ hm)]
theorem pick_back (xs : Array Value) : ((List.range xs.size).filterMap fun (m : Nat) => xs[(((xs.size : Nat) : Int) - 1 + (m : Int) * (-1)).toNat]?).toArray = xs.toList.reverse.toArray := by
  congr 1
  have e : ∀ m ∈ List.range xs.size, xs[(((xs.size : Nat) : Int) - 1 + (m : Int) * (-1)).toNat]? = xs.toList.reverse[m]? := by
    intro m hm
    rw [List.mem_range] at hm
    have : (((xs.size : Nat) : Int) - 1 + (m : Int) * (-1)).toNat = xs.size - 1 - m := by omega
    rw [this, List.getElem?_reverse (by rw [Array.length_toList]; exact hm), Array.length_toList, Array.getElem?_toList]
  rw [fm_congr e]
  apply List.ext_getElem?
  intro i
  have hz : (List.range xs.size).length = xs.toList.reverse.length := by simp
  have : ∀ (ys : List Value) (n : Nat), n = ys.length → (List.range n).filterMap (fun m => ys[m]?) = ys := by
    intro ys
    induction ys with
    | nil => intro n hn; subst hn; rfl
    | cons y ys ih =>
      intro n hn
      subst hn
      rw [List.length_cons, List.range_succ_eq_map, List.filterMap_cons]
      simp only [List.getElem?_cons_zero, List.filterMap_map]
      congr 1
      exact ih _ rfl
  rw [this xs.toList.reverse xs.size (by simp)]
theorem applied_back {sl : Addr} {vl vu vs : Value} {n : Nat} {Q : Int × Int × Nat → Shared → Prop} (hs : s.heap.IsSliceOf sl vl vu vs) (pl : IsPart vl none) (pu : IsPart vu none) (ps : IsPart vs (some (-1)))
    (h : Q ((n : Int) - 1, -1, n) s) : wpAny (model prog w) A (Builtin.Slice.sliceApplied (.ref sl) (pure (n : Int))) Q E s := by
  obtain ⟨os, hos, hcs, hds⟩ := id hs
  unfold Builtin.Slice.sliceApplied Builtin.Slice.sliceFields
  refine wpAny_bind (wpAny_bind (wpAny_field hos hds (x := vl) rfl (wpAny_bind (wpAny_field hos hds (x := vu) rfl (wpAny_bind (wpAny_field hos hds (x := vs) rfl (wpAny_pure ?_)))))))
  refine wpAny_bind (slicePart_ ps ?_)
  show wpAny _ _ (if ((-1 : Int) == 0) = true then _ else _) _ _ s
  rw [if_neg (by decide)]
  refine wpAny_bind (slicePart_ pl (wpAny_bind (slicePart_ pu (wpAny_bind (wpAny_pure ?_)))))
  show wpAny _ _ (match Builtin.Slice.sliceAdjust none none (-1) (n : Int) with | (lo, hi) => pure (lo, (-1 : Int), Builtin.Slice.slicePlaces lo hi (-1))) _ _ s
  rw [adjust_back]
  show wpAny _ _ (pure (((n : Int) - 1), (-1 : Int), Builtin.Slice.slicePlaces ((n : Int) - 1) (-1) (-1))) _ _ s
  rw [places_back]
  exact wpAny_pure h
theorem getItem_tuple_back {t sl : Addr} {items : Array Value} {vl vu vs : Value} {Q : Value → Shared → Prop} (ht : IsTup s.heap t items) (hs : s.heap.IsSliceOf sl vl vu vs) (pl : IsPart vl none) (pu : IsPart vu none) (ps : IsPart vs (some (-1)))
    (h : Q (.ref s.heap.objs.size) { s with heap := s.heap.push { cls := .type "tuple", data := .seq items.toList.reverse.toArray } })
    (hsz : items.size ≤ sizeLine) : wpAny (model prog w) A (getItem (.ref t) (.ref sl)) Q E s := by
  have htake : sizeOk (.seq items.toList.reverse.toArray) := by
    show items.toList.reverse.toArray.size ≤ sizeLine
    rw [List.size_toArray, List.length_reverse, Array.length_toList]
    omega
  obtain ⟨os, hos, hcs, hds⟩ := id hs
  have hTs : s.TypeIs (.ref sl) "slice" := ⟨os, hos, hcs⟩
  unfold getItem
  try with_reducible refine wpAny_holding ?_
  first | refine wpAny_bind (wpAny_pure ?_) | skip
  refine wpAny_bind (wpAny_sequenceKey ht.typeIs (by decide) ?_)
  refine wpAny_bind (wpAny_callSpecial?_slot (name := Str.ofString "__getitem__") ht.typeIs PyProof.Rows.slot_tuple_getitem
    (wpAny_call_entry PyProof.Rows.slot_tuple_getitem ht.typeIs entry_tuple_getitem ?_ (args_tuple_getitem _ _)))
  show wpAny _ _ (Builtin.Tuple.tupleItemsOf (.ref t) >>= _) _ _ s
  refine wpAny_bind (tupleItemsOf_ ht ?_)
  refine wpAny_bind (wpAny_typeOf hTs ?_)
  rw [if_pos (by decide)]
  refine wpAny_bind (applied_back hs pl pu ps ?_)
  have hno : ¬ (((((items.size : Nat) : Int) - 1) == 0 && (-1 : Int) == 1 && items.size == items.size) = true) := by
    intro q
    rw [Bool.and_eq_true, Bool.and_eq_true] at q
    exact absurd q.1.2 (by decide)
  show wpAny _ _ (if ((((items.size : Nat) : Int) - 1) == 0 && (-1 : Int) == 1 && items.size == items.size) = true then _ else _) _ _ s
  rw [if_neg hno, pick_back]
  first
    | exact wpAny_bind (m := Builtin.Tuple.tupleExact _) (wpAny_newObj_type (wpAny_pure ⟨_, rfl, wpAny_pure h⟩) htake)
    | exact wpAny_bind (m := Builtin.Tuple.tupleExact _) (wpAny_newObj_type (wpAny_bind (wpAny_pure (wpAny_pure ⟨_, rfl, wpAny_pure h⟩))) htake)
    | exact wpAny_bind (wpAny_bind (m := Builtin.Tuple.tupleExact _) (wpAny_newObj_type (wpAny_pure (wpAny_pure ⟨_, rfl, wpAny_pure h⟩)) htake))
    | exact wpAny_bind (wpAny_bind (m := Builtin.Tuple.tupleExact _) (wpAny_newObj_type (wpAny_pure (wpAny_pure ⟨_, rfl, wpAny_pure h⟩)) htake))
end
end HT
namespace Mini
open PySem PySem.Spec PyProof.Rows L2
def tRevT (K : PySem.W.Frag) (te : TE) : TE := fun σ H Q => te σ H fun x H1 => ∃ a xs, x = .ref a ∧ SqT K H1 a xs ∧ ∀ p, H1 p = none → Q (.ref p) (upd H1 p (.tup xs.reverse))
section
variable {X : Cx} {K : PySem.W.Frag} {T : XT} {W : WX} {e : Expr} {te : TE} {ve : EvE} {pos p1 p2 p3 : Pos} {k : Nat}
theorem pe_revT (he : PE X e te) : PE X (.Subscript e (.Slice none none (some (.UnaryOp .USub (.Constant (.int 1) k p1) p2)) p3) pos) (tRevT X.K te) := by
  refine ⟨fun pins s σ H Q I h => ?_⟩
  refine Subscript_ (thn (he.run pins s σ H _ I h) fun v s1 ⟨x, H1, I1, r1, q1⟩ => ?_)
  obtain ⟨a, xs, ex, hx, q⟩ := q1
  subst ex
  cases r1
  have hst : PO X (some (.UnaryOp .USub (.Constant (.int 1) k p1) p2)) (tPart (tUn (rU fun i => .int (-i)) (tC (.int 1)))) := po_some (pe_un un_neg pe_int)
  refine wpAny_Slice (thn (po_none.run pins s1 σ H1 (fun o H2 => o = none ∧ H2 = H1) I1 ⟨rfl, rfl⟩) fun vl s2 ⟨l, H2, I2, pl, el, e2⟩ => ?_)
  subst el e2
  refine thn (po_none.run pins s2 σ H2 (fun o H3 => o = none ∧ H3 = H2) I2 ⟨rfl, rfl⟩) fun vu s3 ⟨u, H3, I3, pu, eu, e3⟩ => ?_
  subst eu e3
  refine thn (hst.run pins s3 σ H3 (fun o H4 => o = some (-1) ∧ H4 = H3) I3 ⟨1, rfl, -1, rfl, rfl, rfl⟩) fun vs s4 ⟨o, H4, I4, ps, eo, e4⟩ => ?_
  subst eo e4
  have I5 : Inv X pins σ H4 { s4 with heap := s4.heap.push { cls := .type "slice", data := .fields #[vl, vu, vs] } } := I4.kept (t' := s4.toks) fun b ob q => Heap.get?_push_of_some _ q
  obtain ⟨its, r, ht, hz⟩ := I5.tuple hx
  have hlen := r.length
  show wpAny (model X.prog X.w) X.A (subscriptTail e (.Slice none none (some (.UnaryOp .USub (.Constant (.int 1) k p1) p2)) p3) (.ref a) (.ref s4.heap.objs.size)) (EP X pins σ Q) X.xe { s4 with heap := s4.heap.push { cls := .type "slice", data := .fields #[vl, vu, vs] } }
  refine tail_any (ops := [.ref a, .ref s4.heap.objs.size]) ht.typeIs (PySem.F.slot_tuple_getitem.lookup) ?_ (by with_unfolding_all rfl)
  refine HT.getItem_tuple_back ht (Heap.IsSliceOf.new _ vl vu vs) pl pu ps ?_ (by rw [List.size_toArray]; omega)
  refine ⟨.ref _, _, I5.laid (t' := s4.toks) (o := .tup xs.reverse) (fun b ob q => Heap.get?_push_of_some _ q) (Nat.le_refl _) ?_, rfl, q _ (I5.hok.fresh (Nat.le_refl _))⟩
  exact ⟨by rw [List.length_reverse]; exact hz, _, r.reverse, IsTup.new _ _⟩
theorem s_revT (he : SE X K T W e te ve) (hK : X.K = K := by rfl) : SE X K T W (.Subscript e (.Slice none none (some (.UnaryOp .USub (.Constant (.int 1) k p1) p2)) p3) pos) (tRevT K te) (eRevT ve) := by
  subst hK
  refine ⟨pe_revT he.pe, ?_⟩
  intro g B ρ st σ H rel
  unfold eRevT tRevT
  refine Res.bind (U := te σ H) (U2 := fun (x : V) (H1 : Hp) (Q : VK) => ∃ a xs, x = V.ref a ∧ SqT X.K H1 a xs ∧ ∀ p, H1 p = none → Q (V.ref p) (upd H1 p (.tup xs.reverse))) (O := oD X.K) (he.good.share rel) fun v s1 B1 ρ1 x H1 _ m1 r1 o1 => ?_
  have o1 : Rep X.K B1 ρ1 x v.d := o1
  split
  · rename_i ys hd
    rw [hd] at o1
    cases o1 with
    | @tup a vs _ h1 r =>
      refine fun Q hQ => ⟨a, vs, rfl, SqT.of (r1.sub _ _ h1), fun p hp => ?_⟩
      exact hQ _ ρ1 _ _ (⟨Sub.new r1 hp, Pre.refl _⟩) (r1.imm hp) (.tup upd_same ((Reps.rev r).up ⟨Sub.new r1 hp, Pre.refl _⟩))
  · trivial
end
section
variable {X : Cx} {K : PySem.W.Frag} {T : XT} {W : WX} {a b c : Expr} {ta tb tc : TE} {va vb vc : EvE} {pos p pos' p2 pos2 p4 : Pos} {x y : Str} {k : Nat} {g : Gx} {B : Hp} {ρ : List Addr} {st : St} {σ : L2.St} {H : Hp} {xv : V} {d : D}
theorem good_putAt {j : Nat} {D : Ends} (hb : GoodE K T W tb vb) (r1 : Rel K g B ρ st σ H) (o1 : Rep K B ρ xv d) : EndS K T W g B ρ D (putAt j vb d st) (gSub (tVar j) tb rSetL xv σ H D.nx) := by
  unfold putAt gSub
  split
  · rename_i xs0 e0
    obtain ⟨p, vs0, h1, h2, h3⟩ := r1.ownH e0
    have z : EndS K T W g B ρ D ((vb st).thenS fun y s2 => (match y.d, s2.env[j]? with
      | .int i, some (some (.ow xs)) => (match ixNat xs.length i with
        | some k => O.nx { s2 with env := s2.env.set j (some (.ow (xs.set k d))) }
        | none => .no)
      | _, _ => .no)) (tb σ H fun i H2 => rSetL (.ref p) i xv H2 fun H3 => D.nx σ H3) := by
      refine EndS.bind (U := tb σ H) (U2 := fun i H2 => rSetL (.ref p) i xv H2 fun H3 => D.nx σ H3) (hb.share r1) fun y st2 B2 ρ2 yv H2 _ m2 r2 o2 => ?_
      have o2 : Rep K B2 ρ2 yv y.d := o2
      split
      · rename_i i xs ei e4
        rw [ei] at o2
        cases o2
        obtain ⟨p', vs, h4, h5, h6⟩ := r2.ownH e4
        rw [h1] at h4
        cases h4
        split
        · rename_i k hk
          have lo := r2.takeOut e4 h1
          have hi : j < st2.env.length := (List.getElem?_eq_some_iff.mp e4).1
          have r3 := ((r2.forget (i := j)).put (o := .lst (vs.set k xv)) lo).backIn hi h1 lo upd_same (Reps.set k (o1.up m2) h6)
          exact fun w => ⟨p, vs, i, k, rfl, rfl, h5, by rw [h6.length]; exact hk, w B2 ρ2 σ _ (Mono.refl _ _) r3⟩
        · trivial
      · trivial
    exact EndS.of fun w => ⟨_, h1, z.to w⟩
  · trivial
theorem good_ixput2 {i j : Nat} (ha : GoodE K T W ta va) (hb : GoodE K T W tb vb) (hc : GoodE K T W tc vc) : GoodS K T W (tAsg tc (gTup K 2 (gCons (gSub (tVar i) ta rSetL) (gCons (gSub (tVar j) tb rSetL) gNil)))) (sIxPut2 i va j vb vc) := by
  intro g B ρ st σ H D rel
  unfold sIxPut2 tAsg gTup
  refine EndS.bind (U := tc σ H) (U2 := fun v H0 => ∃ a xs, v = V.ref a ∧ SqT K H0 a xs ∧ xs.length = 2 ∧ gCons (gSub (tVar i) ta rSetL) (gCons (gSub (tVar j) tb rSetL) gNil) xs σ H0 D.nx) (hc.share rel) fun v st1 B1 ρ1 xv H1 _ m1 r1 o1 => ?_
  have o1 : Rep K B1 ρ1 xv v.d := o1
  split
  · rename_i d1 d2 hd
    rw [hd] at o1
    cases o1 with
    | @tup a vs _ h1 r =>
      cases r with
      | @cons x1 vs' _ _ rx1 rr =>
        cases rr with
        | @cons x2 vs'' _ _ rx2 rr =>
          cases rr
          have z := good_putAt (j := i) (D := { D with nx := fun σ' H' => gSub (tVar j) tb rSetL x2 σ' H' D.nx }) ha r1 rx1
          refine EndS.of fun w => ⟨a, _, rfl, SqT.of (r1.sub _ _ h1), rfl, x1, [x2], rfl, ?_⟩
          have fin : ∀ σ' H', gSub (tVar j) tb rSetL x2 σ' H' D.nx → gCons (gSub (tVar j) tb rSetL) gNil [x2] σ' H' D.nx := fun σ' H' h => by
            refine ⟨x2, [], rfl, ?_⟩
            unfold gSub at h ⊢
            obtain ⟨v, hv, h⟩ := h
            exact ⟨v, hv, by simpa only [gNil, true_and] using h⟩
          have e2 : (fun σ' H' => gSub (tVar j) tb rSetL x2 σ' H' D.nx) = (fun σ' H' => gCons (gSub (tVar j) tb rSetL) gNil [x2] σ' H' D.nx) := by
            funext σ' H'
            refine propext ⟨fin σ' H', fun h => ?_⟩
            obtain ⟨v, r, e, h⟩ := h
            cases e
            unfold gSub at h ⊢
            obtain ⟨v, hv, h⟩ := h
            exact ⟨v, hv, by simpa only [gNil, true_and] using h⟩
          have goal : gSub (tVar i) ta rSetL x1 σ H1 (fun σ' H' => gSub (tVar j) tb rSetL x2 σ' H' D.nx) := by
            refine z.to ?_
            cases e : putAt i va d1 st1 with
            | no => rw [e] at w; exact w.elim
            | nx st2 =>
              rw [e] at w
              exact fun B' ρ' σ' H' m r' => (good_putAt (j := j) (D := D) hb r' (rx2.up m)).to (Want.up (o := putAt j vb d2 st2) w m)
            | bk st2 => rw [e] at w; exact w
            | ct st2 => rw [e] at w; exact w
            | rt v st2 => rw [e] at w; exact w
            | ex x st2 => rw [e] at w; exact w
          rw [e2] at goal
          exact goal
  · trivial
theorem ss_ixput2 {kt : Nat} (i j : Nat) (hcalm : X.calm = true) (hN : X.N[i]? = some x := by rfl) (hN2 : X.N[j]? = some y := by rfl) (ha : SE X K T W a ta va) (hb : SE X K T W b tb vb) (hc : SE X K T W c tc vc)
    (hv : Vis X.env.scope x := by first | exact Or.inl rfl | exact Or.inr (Or.inl rfl) | exact Or.inr (Or.inr rfl)) (hd : (x == ("__debug__" : Str)) = false := by decide) (hcd : (x == ("__classdict__" : Str)) = false := by decide)
    (hv2 : Vis X.env.scope y := by first | exact Or.inl rfl | exact Or.inr (Or.inl rfl) | exact Or.inr (Or.inr rfl)) (hd2 : (y == ("__debug__" : Str)) = false := by decide) (hcd2 : (y == ("__classdict__" : Str)) = false := by decide)
    (hs : swapsWithSole [.Tuple [.Subscript (.Name x p) a pos', .Subscript (.Name y p2) b pos2] kt p4] c pos.line X.env = pure false := by rfl) (hw : swappedStores [.Tuple [.Subscript (.Name x p) a pos', .Subscript (.Name y p2) b pos2] kt p4] c X.env = pure none := by rfl)
    (h1 : (assignEach [.Tuple [.Subscript (.Name x p) a pos', .Subscript (.Name y p2) b pos2] kt p4] X.env).map (·.2) = [assign (.Tuple [.Subscript (.Name x p) a pos', .Subscript (.Name y p2) b pos2] kt p4) X.env] := by rfl)
    (hn : (assignEach [.Subscript (.Name x p) a pos', .Subscript (.Name y p2) b pos2] X.env).length = 2 := by rfl) (hst : (assignEach [.Subscript (.Name x p) a pos', .Subscript (.Name y p2) b pos2] X.env).findIdx? (·.1) = none := by rfl)
    (hs1 : (assignEach [.Subscript (.Name x p) a pos', .Subscript (.Name y p2) b pos2] X.env).map (·.2) = assign (.Subscript (.Name x p) a pos') X.env :: (assignEach [.Subscript (.Name y p2) b pos2] X.env).map (·.2) := by rfl)
    (hs2 : (assignEach [.Subscript (.Name y p2) b pos2] X.env).map (·.2) = assign (.Subscript (.Name y p2) b pos2) X.env :: (assignEach [] X.env).map (·.2) := by rfl)
    (hA : ∀ v, assign (.Subscript (.Name x p) a pos') X.env v = (do
      let ov ← holding [v] (eval (.Name x p) X.env)
      let iv ← holding [v, ov] (eval a X.env)
      standAt pos'
      holding [v, ov, iv] (setItem ov iv v)
      release [v, ov, iv] []) := by intro _; rfl)
    (hB : ∀ v, assign (.Subscript (.Name y p2) b pos2) X.env v = (do
      let ov ← holding [v] (eval (.Name y p2) X.env)
      let iv ← holding [v, ov] (eval b X.env)
      standAt pos2
      holding [v, ov, iv] (setItem ov iv v)
      release [v, ov, iv] []) := by intro _; rfl) (hK : X.K = K := by rfl) :
    SS X K T W (.Assign [.Tuple [.Subscript (.Name x p) a pos', .Subscript (.Name y p2) b pos2] kt p4] c pos) (tAsg tc (gTup K 2 (gCons (gSub (tVar i) ta rSetL) (gCons (gSub (tVar j) tb rSetL) gNil)))) (sIxPut2 i va j vb vc) := by
  subst hK
  exact ⟨ps_asg hc.pe (pg_tup hcalm (pgs_cons (pg_sub (pe_var hN hv hd hcd) ha.pe set_list hA) (pgs_cons (pg_sub (pe_var hN2 hv2 hd2 hcd2) hb.pe set_list hB) pgs_nil hs2) hs1) hn hst) hs hw h1, good_ixput2 ha.good hb.good hc.good⟩
end
end Mini

set_option Elab.async false
set_option linter.all false
set_option maxRecDepth 100000
set_option maxHeartbeats 1000000
/-! PyX24: zip of two lists or two tuples. -/
namespace Mini
open PySem PySem.Spec PyProof.Rows L2
section
variable {K : PySem.W.Frag} {T : XT} {W : WX} {va : TA} {l : EvA}
theorem good_izipA (hl : GoodA K T W va l) : GoodI K T W (RZ.iZipA K va) (iZip3 l) := by
  intro g B ρ st σ H rel
  unfold iZip3 RZ.iZipA
  refine Res.bind (U := va σ H) (U2 := fun vs H1 R => ∃ a b xs ys, vs = [V.ref a, V.ref b] ∧ ((SqL K H1 a xs ∧ SqL K H1 b ys ∧ R (Itz K a b) H1) ∨ (SqT K H1 a xs ∧ SqT K H1 b ys ∧ R (RZ.ItzT K a b) H1))) (O := oDs K) (hl g B ρ st σ H rel) fun ds s1 B1 ρ1 vs H1 _ m1 r1 o1 => ?_
  have o1 : Reps K B1 ρ1 vs ds := o1
  split
  · rename_i xs ys _ _
    cases o1 with
    | cons ra t =>
      cases t with
      | cons rb t =>
        cases t
        cases ra with
        | @lst aa us _ h1 h2 =>
          cases rb with
          | @lst ab ws _ h3 h4 =>
            refine Res.now (x := Itz K aa ab) (fun Q q => ⟨_, _, _, _, rfl, .inl ⟨SqL.of (r1.sub _ _ h1), SqL.of (r1.sub _ _ h3), q⟩⟩) (Mono.refl _ _) r1 ?_
            intro g' i B2 ρ2 st2 σ2 H2 m2 rel2
            have e1 : SqL K H2 aa us := SqL.of (rel2.sub _ _ (m2.b _ _ h1))
            have e2 : SqL K H2 ab ws := SqL.of (rel2.sub _ _ (m2.b _ _ h3))
            refine ⟨fun d hd => ?_, fun hi => ⟨us, ws, e1, e2, ?_⟩⟩
            · rw [List.getElem?_map] at hd
              cases e : (xs.zip ys)[i]? with
              | none => rw [e] at hd; cases hd
              | some p =>
                rw [e] at hd
                cases hd
                obtain ⟨hx, hy⟩ := zip_get xs ys i (x := p.1) (y := p.2) e
                obtain ⟨u, hu, ru⟩ := h2.get hx
                obtain ⟨w, hw, rw'⟩ := h4.get hy
                refine ⟨⟨us, ws, u, w, e1, e2, hu, hw⟩, fun x H' hyl => ?_⟩
                obtain ⟨Tt, x1, x2, rfl, nT, rfl, f1, f2⟩ := hyl
                have ex1 : x1 = u := Option.some.inj ((f1 _ e1).symm.trans hu)
                have ex2 : x2 = w := Option.some.inj ((f2 _ e2).symm.trans hw)
                subst ex1 ex2
                have sN := Sub.new (o := .tup [x1, x2]) rel2 nT
                exact ⟨_, sN, rel2.imm nT, .tup upd_same (.cons ((ru.up m2).mono sN (Pre.refl _)) (.cons ((rw'.up m2).mono sN (Pre.refl _)) .nil))⟩
            · rw [List.length_map, List.length_zip] at hi
              rw [h2.length, h4.length]
              omega
  · rename_i xs ys _ _
    cases o1 with
    | cons ra t =>
      cases t with
      | cons rb t =>
        cases t
        cases ra with
        | @tup aa us _ h1 h2 =>
          cases rb with
          | @tup ab ws _ h3 h4 =>
            refine Res.now (x := RZ.ItzT K aa ab) (fun Q q => ⟨_, _, _, _, rfl, .inr ⟨SqT.of (r1.sub _ _ h1), SqT.of (r1.sub _ _ h3), q⟩⟩) (Mono.refl _ _) r1 ?_
            intro g' i B2 ρ2 st2 σ2 H2 m2 rel2
            have e1 : SqT K H2 aa us := SqT.of (rel2.sub _ _ (m2.b _ _ h1))
            have e2 : SqT K H2 ab ws := SqT.of (rel2.sub _ _ (m2.b _ _ h3))
            refine ⟨fun d hd => ?_, fun hi => ⟨us, ws, e1, e2, ?_⟩⟩
            · rw [List.getElem?_map] at hd
              cases e : (xs.zip ys)[i]? with
              | none => rw [e] at hd; cases hd
              | some p =>
                rw [e] at hd
                cases hd
                obtain ⟨hx, hy⟩ := zip_get xs ys i (x := p.1) (y := p.2) e
                obtain ⟨u, hu, ru⟩ := h2.get hx
                obtain ⟨w, hw, rw'⟩ := h4.get hy
                refine ⟨⟨us, ws, u, w, e1, e2, hu, hw⟩, fun x H' hyl => ?_⟩
                obtain ⟨Tt, x1, x2, rfl, nT, rfl, f1, f2⟩ := hyl
                have ex1 : x1 = u := Option.some.inj ((f1 _ e1).symm.trans hu)
                have ex2 : x2 = w := Option.some.inj ((f2 _ e2).symm.trans hw)
                subst ex1 ex2
                have sN := Sub.new (o := .tup [x1, x2]) rel2 nT
                exact ⟨_, sN, rel2.imm nT, .tup upd_same (.cons ((ru.up m2).mono sN (Pre.refl _)) (.cons ((rw'.up m2).mono sN (Pre.refl _)) .nil))⟩
            · rw [List.length_map, List.length_zip] at hi
              rw [h2.length, h4.length]
              omega
  · trivial
theorem si_zip3 {X : Cx} {a b : Expr} {es : List Expr} {t : TA} {p p1 pos : Pos} {k} (hm : X.mg "zip" = none) (hl : SA X K T W [a, b] t l) (hg : Gl X "zip" := by rfl) (hs : starEach [a, b] X.env = (false, eval a X.env) :: starEach [b] X.env := by rfl) (hpl : (backTo pos (starEach [b] X.env)).any (·.1) = false := by rfl) (hK : X.K = K := by rfl) :
    SI X K T W (.Tuple es k p1) (.Call (.Name "zip" p) [a, b] [] pos) (RZ.iZipA K t) (iZip3 l) := by
  subst hK
  exact ⟨RZ.pi_zipA hg hm hl.pe hs hpl, good_izipA hl.good⟩
end
section
variable {X : Cx} {K : PySem.W.Frag} {T : XT} {W : WX} {p pos pos' : Pos} {x : Str} {j : Nat}
theorem good_noneV {i : Nat} : GoodT K T W (tB (tIsN (tVar i))) (tNoneV i) := by
  intro g B ρ st σ H r
  unfold tNoneV
  split
  · rename_i ds e
    obtain ⟨p, vs, h1, h2, h3⟩ := r.ownH e
    exact Res.now (x := false) (fun Q q => ⟨_, h1, false, rfl, q⟩) (Mono.refl _ _) r rfl
  · rename_i d e
    have h := good_bltest (good_isN (good_var (K := K) (T := T) (W := W) (i := i))) g B ρ st σ H r
    have z : tBl (eOp1 oIsN (eVar i)) st = .ok d.isNon st := by
      unfold tBl eOp1 eVar
      rw [e]
      rfl
    rw [z] at h
    exact h
  · trivial
theorem st_noneV (i : Nat) (hN : X.N[i]? = some x := by rfl) (hv : Vis X.env.scope x := by first | exact Or.inl rfl | exact Or.inr (Or.inl rfl) | exact Or.inr (Or.inr rfl)) (hd : (x == ("__debug__" : Str)) = false := by decide)
    (hcd : (x == ("__classdict__" : Str)) = false := by decide) (hK : X.K = K := by rfl) : ST X K T W (.Compare (.Name x p) [.Is] [.Constant .none j pos'] pos) (tB (tIsN (tVar i))) (tNoneV i) := by
  subst hK
  exact ⟨pt_cmp (pc_isN (pe_var hN hv hd hcd)) rfl, good_noneV⟩
end
end Mini

set_option linter.all false
set_option maxRecDepth 100000
/-! PyLib: the evaluator's terms reckoned out by simp. -/
namespace Mini
open PySem
section
variable (st : St) (i j : Nat) (a b c e : EvE) (d : D) (l r : EvA) (t u : EvT) (p q : EvS) (g : EvG) (gs : EvGs) (it : EvI) (f h : Op2) (f1 : Op1) (fa : OpA) (F : Fn)
@[simp] theorem x_var : eVar i st = match st.env[i]? with
  | some (some (.sh d)) => .ok (.sh d) st
  | some (some (.ow xs)) => .ok (.sh (.lst xs)) { st with env := st.env.set i (some (.sh (.lst xs))) }
  | _ => .no := (rfl)
@[simp] theorem x_own : eOwn i st = match st.env[i]? with
  | some (some (.ow xs)) => .ok (.ow xs) { st with env := st.env.set i none }
  | some (some (.sh d)) => .ok (.sh d) st
  | _ => .no := (rfl)
@[simp] theorem x_c : eC d st = .ok (.sh d) st := (rfl)
@[simp] theorem x_int (k : Int) : eInt k st = .ok (.sh (.int k)) st := (rfl)
@[simp] theorem x_str (k : Str) : eStr k st = .ok (.sh (.str k)) st := (rfl)
@[simp] theorem x_op : eOp f a b st = (a st).bind fun x s1 => (b s1).bind fun y s2 => match f x.d y.d with
  | some v => .ok v s2
  | none => .no := (rfl)
@[simp] theorem x_op1 : eOp1 f1 a st = (a st).bind fun x s1 => match f1 x.d with
  | some v => .ok v s1
  | none => .no := (rfl)
@[simp] theorem x_nil : aNil st = .ok [] st := (rfl)
@[simp] theorem x_cons : aCons e l st = (e st).bind fun x s1 => (l s1).bind fun xs s2 => .ok (x.d :: xs) s2 := (rfl)
@[simp] theorem x_tup : eTup l st = (l st).bind fun xs s1 => if xs.length ≤ many then .ok (.sh (.tup xs)) s1 else .no := (rfl)
@[simp] theorem x_lst : eLst l st = (l st).bind fun xs s1 => if xs.length ≤ many then .ok (.ow xs) s1 else .no := (rfl)
@[simp] theorem x_lstC : eLstC l st = (l st).bind fun xs s1 => if xs.length ≤ many then .ok (.sh (.cell s1.om.length)) { s1 with om := s1.om ++ [.lst xs] } else .no := (rfl)
@[simp] theorem x_disp (ks : List Str) : eDisp ks l st = (l st).bind fun ds s1 =>
  if ds.length = ks.length ∧ ks.length ≤ 15 then .ok (.sh (.cell s1.om.length)) { s1 with om := s1.om ++ [.dK ((ks.zip ds).foldl (fun acc kv => kvPut acc (.inr kv.1) kv.2) [])] } else .no := (rfl)
@[simp] theorem x_lenV : eLenV i st = match st.look i with
  | some xs => .ok (.sh (.int xs.length)) st
  | none => .no := (rfl)
@[simp] theorem x_look : st.look i = match st.env[i]? with
  | some (some (.sh (.lst xs))) => some xs
  | some (some (.ow xs)) => some xs
  | _ => none := (rfl)
@[simp] theorem x_dget : eDGet a b st = (a st).bind fun x s1 => (b s1).bind fun y s2 => match x.d, y.d.ky? with
  | .cell n, some k => (match s2.om[n]? with
    | some (.dK kvs) => (match kvGet kvs k with
      | some d => .ok (.sh d) s2
      | none => .no)
    | _ => .no)
  | _, _ => .no := (rfl)
@[simp] theorem x_popC : ePopC a b st = (a st).bind fun x s1 => match x.d with
  | .cell n => (match s1.om[n]? with
    | some (.lst _) => (b s1).bind fun y s2 => (match y.d, s2.om[n]? with
      | .int i, some (.lst xs) => if 0 ≤ i ∧ i < 1000000 then (match xs[i.toNat]? with
        | some d => .ok (.sh d) { s2 with om := s2.om.set n (.lst (xs.eraseIdx i.toNat)) }
        | none => .no) else .no
      | _, _ => .no)
    | _ => .no)
  | _ => .no := (rfl)
@[simp] theorem x_popV : ePopV j b st = match st.env[j]? with
  | some (some (.ow _)) => (b st).bind fun y s2 => (match y.d, s2.env[j]? with
    | .int i, some (some (.ow xs)) => if 0 ≤ i ∧ i < 1000000 then (match xs[i.toNat]? with
        | some d => .ok (.sh d) { s2 with env := s2.env.set j (some (.ow (xs.eraseIdx i.toNat))) }
        | none => .no) else .no
    | _, _ => .no)
  | _ => .no := (rfl)
@[simp] theorem x_tru : tTru e st = (e st).bind fun x s1 => match x.d.tru s1.om with
  | some b => .ok b s1
  | none => .no := (rfl)
@[simp] theorem x_truV : tTruV i st = match st.look i with
  | some xs => .ok (!xs.isEmpty) st
  | none => .no := (rfl)
@[simp] theorem x_bl : tBl e st = (e st).bind fun x s1 => match x.d with
  | .bl b => .ok b s1
  | _ => .no := (rfl)
@[simp] theorem x_tand : tAnd t u st = (t st).bind fun x s1 => if x = true then u s1 else .ok false s1 := (rfl)
@[simp] theorem x_tor : tOr t u st = (t st).bind fun x s1 => if x = true then .ok true s1 else u s1 := (rfl)
@[simp] theorem x_tnot : tNot t st = (t st).bind fun x s1 => .ok (!x) s1 := (rfl)
@[simp] theorem x_and : eAnd a b st = (a st).bind fun x s1 => match x.d with
  | .bl true => b s1
  | .bl false => .ok (.sh (.bl false)) s1
  | _ => .no := (rfl)
@[simp] theorem x_or : eOr a b st = (a st).bind fun x s1 => match x.d with
  | .bl true => .ok (.sh (.bl true)) s1
  | .bl false => b s1
  | _ => .no := (rfl)
@[simp] theorem x_not : eNot a st = (a st).bind fun x s1 => match x.d with
  | .bl b => .ok (.sh (.bl (!b))) s1
  | _ => .no := (rfl)
@[simp] theorem x_if : eIf t a b st = (t st).bind fun c s1 => if c = true then a s1 else b s1 := (rfl)
@[simp] theorem x_chain : eChain f h a b c st = (a st).bind fun x s1 => (b s1).bind fun y s2 => match f x.d y.d with
  | some v => (match v.d with
    | .bl true => (c s2).bind fun z s3 => (match h y.d z.d with
      | some w => .ok w s3
      | none => .no)
    | .bl false => .ok (.sh (.bl false)) s2
    | _ => .no)
  | none => .no := (rfl)
def FR.toR (r : FR) (env : List (Option Vl)) : R Vl := match r with
  | .ok v om => .ok v ⟨env, om⟩
  | .ex x om => .ex x ⟨env, om⟩
  | .no => .no
@[simp] theorem toR_ok (v : Vl) (om : List Cell) (env : List (Option Vl)) : (FR.ok v om).toR env = .ok v ⟨env, om⟩ := (rfl)
@[simp] theorem toR_ex (x : Xc) (om : List Cell) (env : List (Option Vl)) : (FR.ex x om).toR env = .ex x ⟨env, om⟩ := (rfl)
@[simp] theorem toR_no (env : List (Option Vl)) : (FR.no).toR env = .no := (rfl)
@[simp] theorem x_call : eCall F l st = (l st).bind fun ds s1 => (F ds s1.om).toR s1.env := by
  unfold eCall
  congr 1
@[simp] theorem x_b : eB fa l st = (l st).bind fun ds s1 => match fa ds with
  | some v => .ok v s1
  | none => .no := (rfl)
@[simp] theorem x_isa (ty : Ty) : eIsA a ty st = (a st).bind fun x s1 => match x.d.isA s1.om ty with
  | some b => .ok (.sh (.bl b)) s1
  | none => .no := (rfl)
@[simp] theorem x_iseq : iSeq e st = (e st).bind fun x s1 => match x.d with
  | .lst xs => .ok xs s1
  | _ => .no := (rfl)
@[simp] theorem x_itup : iTup e st = (e st).bind fun x s1 => match x.d with
  | .tup xs => .ok xs s1
  | _ => .no := (rfl)
@[simp] theorem x_iany : iAny e st = (e st).bind fun x s1 => match x.d with
  | .lst xs => .ok xs s1
  | .tup xs => .ok xs s1
  | _ => .no := (rfl)
@[simp] theorem x_range1 : iRange1 l st = (l st).bind fun ds s1 => match ds with
  | [.int j] => if -far ≤ j ∧ j < far then .ok (rangeD 0 j.toNat) s1 else .no
  | _ => .no := (rfl)
@[simp] theorem x_range2 : iRange2 l st = (l st).bind fun ds s1 => match ds with
  | [.int i, .int j] => if (-far ≤ i ∧ i < far) ∧ -far ≤ j ∧ j < far then .ok (rangeD i (j - i).toNat) s1 else .no
  | _ => .no := (rfl)
@[simp] theorem x_zip : iZip l st = (l st).bind fun ds s1 => match ds with
  | [.lst xs, .lst ys] => .ok ((xs.zip ys).map fun p => D.tup [p.1, p.2]) s1
  | _ => .no := (rfl)
@[simp] theorem x_gnm : gNm i d st = if i < st.env.length then some { st with env := st.env.set i (some (.sh d)) } else none := (rfl)
@[simp] theorem x_gnone : gNone [] st = some st := (rfl)
@[simp] theorem x_gmore (ds : List D) : gMore g gs (d :: ds) st = (g d st).bind fun s1 => gs ds s1 := (rfl)
@[simp] theorem x_gtp (ds : List D) : gTp gs (.tup ds) st = gs ds st := (rfl)
@[simp] theorem x_yes : tYes st = .ok true st := (rfl)
@[simp] theorem x_comp (vs : List Nat) : eComp it g t e vs st = (it st).bind fun xs s1 =>
  if calmSlots s1.env vs = true then (match compGo g t e vs xs [] { s1 with env := wipeEnv s1.env vs } with
    | .ok ys s2 => .ok (.ow ys) { s2 with env := restore s1.env s2.env vs }
    | _ => .no) else .no := (rfl)
@[simp] theorem x_pass : sPass st = .nx st := (rfl)
@[simp] theorem x_seq : sSeq p q st = (p st).seq q := (rfl)
@[simp] theorem x_set : sSet i e st = (e st).thenS fun v s1 => if i < s1.env.length then .nx { s1 with env := s1.env.set i (some v) } else .no := (rfl)
@[simp] theorem x_get : sGet g e st = (e st).thenS fun v s1 => match g v.d s1 with
  | some s2 => .nx s2
  | none => .no := (rfl)
@[simp] theorem x_vals0 : eVals [] st = .ok [] st := (rfl)
@[simp] theorem x_vals (es : List EvE) : eVals (e :: es) st = (e st).bind fun v s1 => (eVals es s1).bind fun vs s2 => .ok (v :: vs) s2 := (rfl)
@[simp] theorem x_par (is : List Nat) (es : List EvE) : sPar is es st = (eVals es st).thenS fun vs s1 =>
  if is.all (fun i => decide (i < s1.env.length)) = true then .nx { s1 with env := setAll s1.env is vs } else .no := (rfl)
@[simp] theorem x_ret : sRet e st = (e st).thenS fun v s1 => .rt v s1 := (rfl)
@[simp] theorem x_retN : sRetN st = .rt (.sh .non) st := (rfl)
@[simp] theorem x_sif : sIf t p q st = (t st).thenS fun c s1 => if c = true then p s1 else q s1 := (rfl)
@[simp] theorem x_drop : sDrop e st = (e st).thenS fun _ s1 => .nx s1 := (rfl)
@[simp] theorem x_break : sBreak st = .bk st := (rfl)
@[simp] theorem x_cont : sCont st = .ct st := (rfl)
@[simp] theorem x_app : sApp i e st = match st.env[i]? with
  | some (some (.ow _)) => (e st).thenS fun v s1 => (match s1.env[i]? with
    | some (some (.ow xs)) => if xs.length < many then .nx { s1 with env := s1.env.set i (some (.ow (xs ++ [v.d]))) } else .no
    | _ => .no)
  | _ => .no := (rfl)
@[simp] theorem x_appC : sAppC a e st = (a st).thenS fun x s1 => match x.d with
  | .cell n => (match s1.om[n]? with
    | some (.lst _) => (e s1).thenS fun v s2 => (match s2.om[n]? with
      | some (.lst xs) => if xs.length < many then .nx { s2 with om := s2.om.set n (.lst (xs ++ [v.d])) } else .no
      | _ => .no)
    | _ => .no)
  | _ => .no := (rfl)
@[simp] theorem x_dput : sDPut a b e st = (e st).thenS fun v s1 => (a s1).thenS fun x s2 => (b s2).thenS fun y s3 => match x.d, y.d.ky? with
  | .cell n, some k => (match s3.om[n]? with
    | some (.dK kvs) => if kvs.length < many then .nx { s3 with om := s3.om.set n (.dK (kvPut kvs k v.d)) } else .no
    | _ => .no)
  | _, _ => .no := (rfl)
@[simp] theorem x_for : sFor it g p st = (it st).thenS fun xs s1 => forGo g p xs s1 := (rfl)
@[simp] theorem x_forNil : forGo g p [] st = .nx st := (rfl)
theorem x_forCons (x : D) (xs : List D) : forGo g p (x :: xs) st = match g x st with
    | none => .no
    | some s1 => (match p s1 with
      | .nx s2 => forGo g p xs s2
      | .ct s2 => forGo g p xs s2
      | .bk s2 => .nx s2
      | .rt v s2 => .rt v s2
      | .ex x s2 => .ex x s2
      | .no => .no) := (rfl)
@[simp] theorem x_while (n : Nat) : sWhile n t p st = whileGo t p n st := (rfl)
theorem x_whileS (n : Nat) : whileGo t p (n + 1) st = (t st).thenS fun c s1 => if c = true then (match p s1 with
      | .nx s2 => whileGo t p n s2
      | .ct s2 => whileGo t p n s2
      | .bk s2 => .nx s2
      | .rt v s2 => .rt v s2
      | .ex x s2 => .ex x s2
      | .no => .no) else .nx s1 := (rfl)
@[simp] theorem x_compNil (vs : List Nat) (acc : List D) : compGo g t e vs [] acc st = .ok acc st := (rfl)
theorem x_compCons (vs : List Nat) (x : D) (xs acc : List D) : compGo g t e vs (x :: xs) acc st = match g x st with
    | none => .no
    | some s1 => (t s1).bind fun b s2 => if b = true then (e s2).bind fun y s3 => (if acc.length < many then compGo g t e vs xs (acc ++ [y.d]) { s3 with env := wipeEnv s3.env vs } else .no)
      else compGo g t e vs xs acc { s2 with env := wipeEnv s2.env vs } := (rfl)
end
def O.toF (o : O) : FR := match o with
  | .nx st => .ok (.sh .non) st.om
  | .rt v st => .ok v st.om
  | .ex x st => .ex x st.om
  | _ => .no
@[simp] theorem toF_nx (st : St) : (O.nx st).toF = .ok (.sh .non) st.om := (rfl)
@[simp] theorem toF_rt (v : Vl) (st : St) : (O.rt v st).toF = .ok v st.om := (rfl)
@[simp] theorem toF_ex (x : Xc) (st : St) : (O.ex x st).toF = .ex x st.om := (rfl)
@[simp] theorem x_run (n : Nat) (b : EvS) (ds : List D) (om : List Cell) : runDef n b ds om = (b { env := (ds.map fun d => some (Vl.sh d)) ++ List.replicate (n - ds.length) none, om := om }).toF := (rfl)
section
variable {α β : Type} (a : α) (st : St) (x : Xc) (v : Vl)
@[simp] theorem r_ok (f : α → St → R β) : (R.ok a st).bind f = f a st := (rfl)
@[simp] theorem r_ex (f : α → St → R β) : (R.ex x st : R α).bind f = .ex x st := (rfl)
@[simp] theorem r_no (f : α → St → R β) : (R.no : R α).bind f = .no := (rfl)
@[simp] theorem t_ok (f : α → St → O) : (R.ok a st).thenS f = f a st := (rfl)
@[simp] theorem t_ex (f : α → St → O) : (R.ex x st : R α).thenS f = .ex x st := (rfl)
@[simp] theorem t_no (f : α → St → O) : (R.no : R α).thenS f = .no := (rfl)
@[simp] theorem o_nx (f : St → O) : (O.nx st).seq f = f st := (rfl)
@[simp] theorem o_rt (f : St → O) : (O.rt v st).seq f = .rt v st := (rfl)
@[simp] theorem o_bk (f : St → O) : (O.bk st).seq f = .bk st := (rfl)
@[simp] theorem o_ct (f : St → O) : (O.ct st).seq f = .ct st := (rfl)
@[simp] theorem o_ex (f : St → O) : (O.ex x st).seq f = .ex x st := (rfl)
@[simp] theorem o_no (f : St → O) : (O.no).seq f = .no := (rfl)
end
@[simp] theorem d_sh (d : D) : (Vl.sh d).d = d := (rfl)
@[simp] theorem d_ow (xs : List D) : (Vl.ow xs).d = .lst xs := (rfl)
@[simp] theorem ky_int (i : Int) : (D.int i).ky? = some (.inl i) := (rfl)
@[simp] theorem ky_str (x : Str) : (D.str x).ky? = some (.inr x) := (rfl)
section
variable (i j : Int) (x y : D) (om : List Cell)
@[simp] theorem v_add : oAdd (.int i) (.int j) = some (.sh (.int (i + j))) := (rfl)
@[simp] theorem v_sub : oSub (.int i) (.int j) = some (.sh (.int (i - j))) := (rfl)
theorem wordOk_r {i j : Int} (h : j.natAbs < 2 ^ 64) : wordOk i j = true := by simp [wordOk, h]
theorem wordOk_l {i j : Int} (h : i.natAbs < 2 ^ 64) : wordOk i j = true := by simp [wordOk, h]
theorem log2_lt {n k : Nat} (h : n < 2 ^ k) (h0 : 0 < k) : n.log2 < k := by
  by_cases e : n = 0
  · rw [e, Nat.log2_zero]; exact h0
  · exact (Nat.log2_lt e).mpr h
theorem wordOk_b {i j : Int} (a b : Nat) (ha : i.natAbs < 2 ^ a) (hb : j.natAbs < 2 ^ b) (h0 : 0 < a) (h1 : 0 < b) (h : a + b ≤ 1000000) : wordOk i j = true := by
  have h2 := log2_lt ha h0
  have h3 := log2_lt hb h1
  have : i.natAbs.log2 + j.natAbs.log2 < 1000000 := by omega
  simp [wordOk, this]
theorem v_mul {i j : Int} (h : wordOk i j = true) : oMul (.int i) (.int j) = some (.sh (.int (i * j))) := if_pos h
@[simp] theorem v_mul_r {i j : Int} (h : j.natAbs < 2 ^ 64) : oMul (.int i) (.int j) = some (.sh (.int (i * j))) := v_mul (wordOk_r h)
@[simp] theorem v_mul_l {i j : Int} (h : i.natAbs < 2 ^ 64) : oMul (.int i) (.int j) = some (.sh (.int (i * j))) := v_mul (wordOk_l h)
theorem v_div {i j : Int} (h : 0 < j) (h1 : j.natAbs < 2 ^ 9000) : oDiv (.int i) (.int j) = some (.sh (.int (i / j))) := if_pos ⟨h, log2_lt h1 (by decide)⟩
theorem pow9000 {n k : Nat} (h : n < 2 ^ k) (hk : k ≤ 9000 := by decide) : n < 2 ^ 9000 := Nat.lt_of_lt_of_le h (Nat.pow_le_pow_right (by decide) hk)
@[simp] theorem v_div_s {i j : Int} (h : 0 < j) (h1 : j.natAbs < 2 ^ 64) : oDiv (.int i) (.int j) = some (.sh (.int (i / j))) := v_div h (pow9000 h1)
@[simp] theorem v_mod {i j : Int} (h : 0 < j) : oMod (.int i) (.int j) = some (.sh (.int (i % j))) := by
  unfold oMod
  simp only [show j ≠ 0 by omega, if_false, Int.fmod_eq_emod_of_nonneg i (show 0 ≤ j by omega)]
theorem v_pow {i j : Int} (h : 0 ≤ j) (h1 : j ≤ 1000) (h2 : i.natAbs < 2 ^ 1000) : oPow (.int i) (.int j) = some (.sh (.int (i ^ j.toNat))) := if_pos ⟨h, h1, log2_lt h2 (by decide)⟩
theorem v_pow_s {i j : Int} (h : 0 ≤ j) (h1 : j ≤ 1000) (h2 : i.natAbs < 2 ^ 500) : oPow (.int i) (.int j) = some (.sh (.int (i ^ j.toNat))) := v_pow h h1 (Nat.lt_of_lt_of_le h2 (Nat.pow_le_pow_right (by decide) (by decide)))
theorem v_pow_n {i j : Int} (k : Nat) (hj : j = k) (h1 : k ≤ 1000) (h2 : i.natAbs.log2 < 1000) : oPow (.int i) (.int j) = some (.sh (.int (i ^ k))) := by
  subst hj
  exact if_pos ⟨by omega, by omega, h2⟩
@[simp] theorem v_pow10 (j : Nat) (h : j ≤ 1000) : oPow (.int 10) (.int j) = some (.sh (.int (10 ^ j))) := v_pow_n j rfl h (by decide)
@[simp] theorem v_pow10_18 : oPow (.int 10) (.int 18) = some (.sh (.int (10 ^ 18))) := v_pow10 18 (by decide)
@[simp] theorem v_pow10_30 : oPow (.int 10) (.int 30) = some (.sh (.int (10 ^ 30))) := v_pow10 30 (by decide)
@[simp] theorem v_pow10_60 : oPow (.int 10) (.int 60) = some (.sh (.int (10 ^ 60))) := v_pow10 60 (by decide)
@[simp] theorem v_pow60_4 : oPow (.int 1000000000000000000000000000000000000000000000000000000000000) (.int 4) = some (.sh (.int (10 ^ 240))) := (v_pow_n 4 rfl (by decide) (by decide)).trans (congrArg (fun k => some (Vl.sh (D.int k))) (by decide +kernel))
@[simp] theorem v_cat {xs ys : List D} (h : xs.length + ys.length ≤ 100000) : oAdd (.lst xs) (.lst ys) = some (.ow (xs ++ ys)) := if_pos h
@[simp] theorem v_rep {xs : List D} {k : Int} (h : xs.length * k.toNat ≤ 100000) (h1 : -1000000 ≤ k) (h2 : k ≤ 1000000) : oMul (.lst xs) (.int k) = some (.ow (List.replicate k.toNat xs).flatten) := if_pos ⟨h, h1, h2⟩
@[simp] theorem v_neg : oNeg (.int i) = some (.sh (.int (-i))) := (rfl)
@[simp] theorem v_lt : oLt (.int i) (.int j) = some (.sh (.bl (decide (i < j)))) := (rfl)
@[simp] theorem v_le : oLe (.int i) (.int j) = some (.sh (.bl (decide (i ≤ j)))) := (rfl)
@[simp] theorem v_gt : oGt (.int i) (.int j) = some (.sh (.bl (decide (j < i)))) := (rfl)
@[simp] theorem v_ge : oGe (.int i) (.int j) = some (.sh (.bl (decide (j ≤ i)))) := (rfl)
@[simp] theorem v_isN : oIsN x = some (.sh (.bl x.isNon)) := (rfl)
@[simp] theorem v_notN : oNotN x = some (.sh (.bl (!x.isNon))) := (rfl)
@[simp] theorem n_non : D.non.isNon = true := (rfl)
@[simp] theorem n_int : (D.int i).isNon = false := (rfl)
@[simp] theorem n_bl (b : Bool) : (D.bl b).isNon = false := (rfl)
@[simp] theorem n_str (b : Str) : (D.str b).isNon = false := (rfl)
@[simp] theorem n_lst (b : List D) : (D.lst b).isNon = false := (rfl)
@[simp] theorem n_tup (b : List D) : (D.tup b).isNon = false := (rfl)
theorem v_eq {x y : D} (h : x.fine deep = true) (h1 : y.fine deep = true) : oEq x y = some (.sh (.bl (x.eq y))) := by simp [oEq, h, h1]
theorem v_ne {x y : D} (h : x.fine deep = true) (h1 : y.fine deep = true) : oNe x y = some (.sh (.bl (!x.eq y))) := by simp [oNe, h, h1]
@[simp] theorem fine_int (n : Nat) : (D.int i).fine n = true := by cases n <;> rfl
@[simp] theorem fine_bl (b : Bool) (n : Nat) : (D.bl b).fine n = true := by cases n <;> rfl
@[simp] theorem fine_non (n : Nat) : D.non.fine n = true := by cases n <;> rfl
@[simp] theorem fine_tup (xs : List D) (n : Nat) : (D.tup xs).fine (n + 1) = D.fines n xs := (rfl)
@[simp] theorem fine_lst (xs : List D) (n : Nat) : (D.lst xs).fine (n + 1) = D.fines n xs := (rfl)
@[simp] theorem fines_nil (n : Nat) : D.fines n [] = true := by cases n <;> rfl
@[simp] theorem fines_cons (xs : List D) (n : Nat) : D.fines n (x :: xs) = (D.fine n x && D.fines n xs) := by cases n <;> rfl
theorem fines_all {xs : List D} {n : Nat} (h : ∀ x ∈ xs, x.fine n = true) : D.fines n xs = true := by
  induction xs with
  | nil => simp
  | cons x xs ih => simp [h x (by simp), ih fun y hy => h y (by simp [hy])]
@[simp] theorem deep_s : deep = 19 + 1 := (rfl)
@[simp] theorem v_eqi : oEq (.int i) (.int j) = some (.sh (.bl (i == j))) := (rfl)
@[simp] theorem v_nei : oNe (.int i) (.int j) = some (.sh (.bl (!(i == j)))) := (rfl)
@[simp] theorem eq_ii : (D.int i).eq (.int j) = (i == j) := (rfl)
@[simp] theorem eq_nn : D.non.eq .non = true := (rfl)
@[simp] theorem eq_tt (xs ys : List D) : (D.tup xs).eq (.tup ys) = D.eqs xs ys := (rfl)
@[simp] theorem eq_ll (xs ys : List D) : (D.lst xs).eq (.lst ys) = D.eqs xs ys := (rfl)
@[simp] theorem eqs_nn : D.eqs [] [] = true := (rfl)
@[simp] theorem eqs_cc (xs ys : List D) : D.eqs (x :: xs) (y :: ys) = (x.eq y && D.eqs xs ys) := (rfl)
@[simp] theorem eq_nt (xs : List D) : D.non.eq (.tup xs) = false := (rfl)
@[simp] theorem eq_tn (xs : List D) : (D.tup xs).eq .non = false := (rfl)
mutual
theorem eq_rfl : ∀ (n : Nat) (x : D), x.fine n = true → x.eq x = true
  | _, .non, _ => rfl
  | _, .bl b, _ => by simp [D.eq]
  | _, .int i, _ => by simp
  | _, .str s, _ => by simp [D.eq]
  | 0, .lst xs, h => by simp [D.fine] at h
  | 0, .tup xs, h => by simp [D.fine] at h
  | 0, .scr xs, h => by simp [D.fine] at h
  | 0, .cell xs, h => by simp [D.fine] at h
  | n + 1, .lst xs, h => by simpa using eqs_rfl n xs (by simpa using h)
  | n + 1, .tup xs, h => by simpa using eqs_rfl n xs (by simpa using h)
  | n + 1, .scr xs, h => by simp [D.fine] at h
  | n + 1, .cell xs, h => by simp [D.fine] at h
theorem eqs_rfl : ∀ (n : Nat) (xs : List D), D.fines n xs = true → D.eqs xs xs = true
  | _, [], _ => rfl
  | n, x :: xs, h => by
    have h' : x.fine n = true ∧ D.fines n xs = true := by simpa using h
    simp [eq_rfl n x h'.1, eqs_rfl n xs h'.2]
end
/-! subscripts, built-ins, truth -/
@[simp] theorem ix_lst (xs : List D) : oIx (.lst xs) (.int i) = (atIx xs i).map .sh := (rfl)
@[simp] theorem ix_tup (xs : List D) : oIx (.tup xs) (.int i) = (atIx xs i).map .sh := (rfl)
@[simp] theorem ix_scr (xs : List Int) : oIx (.scr xs) (.int i) = (atIx xs i).map fun k => .sh (.int k) := (rfl)
theorem at_pos {α : Type} {xs : List α} {i : Int} (h : 0 ≤ i) (h1 : i < xs.length) : atIx xs i = some (xs[i.toNat]'(by omega)) := by
  unfold atIx ixNat
  simp [h, h1]
@[simp] theorem at_0 {α : Type} (x : α) (xs : List α) : atIx (x :: xs) 0 = some x := by
  rw [at_pos (by decide) (by simp)]; rfl
@[simp] theorem at_1 {α : Type} (x y : α) (xs : List α) : atIx (x :: y :: xs) 1 = some y := by
  rw [at_pos (by decide) (by simp; omega)]; rfl
@[simp] theorem at_2 {α : Type} (x y z : α) (xs : List α) : atIx (x :: y :: z :: xs) 2 = some z := by
  rw [at_pos (by decide) (by simp; omega)]; rfl
@[simp] theorem bi_len : bLen [x] = oLen x := (rfl)
@[simp] theorem len_lst (xs : List D) : oLen (.lst xs) = some (.sh (.int xs.length)) := (rfl)
@[simp] theorem len_tup (xs : List D) : oLen (.tup xs) = some (.sh (.int xs.length)) := (rfl)
@[simp] theorem len_scr (xs : List Int) : oLen (.scr xs) = some (.sh (.int xs.length)) := (rfl)
@[simp] theorem bi_abs : bAbs [.int i] = some (.sh (.int (i.natAbs : Int))) := by
  unfold bAbs
  simp only [Option.some.injEq, Vl.sh.injEq, D.int.injEq]
  split <;> omega
@[simp] theorem bi_min : bMin [.int i, .int j] = some (.sh (.int (min i j))) := by
  unfold bMin
  simp only [Option.some.injEq, Vl.sh.injEq, D.int.injEq]
  split <;> omega
@[simp] theorem bi_max : bMax [.int i, .int j] = some (.sh (.int (max i j))) := by
  unfold bMax
  simp only [Option.some.injEq, Vl.sh.injEq, D.int.injEq]
  split <;> omega
@[simp] theorem bi_int : bInt [.int i] = some (.sh (.int i)) := (rfl)
@[simp] theorem b_list_l (xs : List D) : bList [.lst xs] = some (.ow xs) := (rfl)
@[simp] theorem b_list_t (xs : List D) : bList [.tup xs] = some (.ow xs) := (rfl)
@[simp] theorem b_tuple_l (xs : List D) : bTuple [.lst xs] = some (.sh (.tup xs)) := (rfl)
@[simp] theorem b_tuple_t (xs : List D) : bTuple [.tup xs] = some (.sh (.tup xs)) := (rfl)
@[simp] theorem b_bls (bs : List Bool) : D.bls (bs.map D.bl) = some bs := by
  induction bs with
  | nil => rfl
  | cons b bs ih => simp [D.bls, ih]
@[simp] theorem bi_all (bs : List Bool) : bAll [.lst (bs.map D.bl)] = some (.sh (.bl (bs.all id))) := by simp [bAll]
@[simp] theorem bi_any (bs : List Bool) : bAny [.lst (bs.map D.bl)] = some (.sh (.bl (bs.any id))) := by simp [bAny]
@[simp] theorem tr_non : D.non.tru om = some false := (rfl)
@[simp] theorem tr_bl (b : Bool) : (D.bl b).tru om = some b := (rfl)
@[simp] theorem tr_int : (D.int i).tru om = some (i != 0) := (rfl)
@[simp] theorem tr_lst (xs : List D) : (D.lst xs).tru om = some (!xs.isEmpty) := (rfl)
@[simp] theorem tr_tup (xs : List D) : (D.tup xs).tru om = some (!xs.isEmpty) := (rfl)
@[simp] theorem tr_cell (n : Nat) : (D.cell n).tru om = match om[n]? with
    | some (.lst xs) => some (!xs.isEmpty)
    | some (.dK kvs) => some (!kvs.isEmpty)
    | _ => none := (rfl)
end
theorem kvGet_def (kvs : List (Ky × D)) (k : Ky) : kvGet kvs k = (kvs.find? fun kv => decide (kv.1 = k)).map (·.2) := (rfl)
theorem kvPut_def (kvs : List (Ky × D)) (k : Ky) (d : D) : kvPut kvs k d =
  if (kvs.any fun kv => decide (kv.1 = k)) = true then kvs.map (fun kv => if kv.1 = k then (kv.1, d) else kv) else kvs ++ [(k, d)] := (rfl)
@[simp] theorem many_n : many = 100000 := by decide +kernel
@[simp] theorem far_n : far = 4000000000000000000 := by decide +kernel
@[simp] theorem w_nil (env : List (Option Vl)) : wipeEnv env [] = env := (rfl)
@[simp] theorem w_cons (env : List (Option Vl)) (v : Nat) (vs : List Nat) : wipeEnv env (v :: vs) = (wipeEnv env vs).set v none := (rfl)
@[simp] theorem rs_nil (env env' : List (Option Vl)) : restore env env' [] = env' := (rfl)
@[simp] theorem rs_cons (env env' : List (Option Vl)) (v : Nat) (vs : List Nat) : restore env env' (v :: vs) = (restore env env' vs).set v (env[v]?.getD none) := (rfl)
@[simp] theorem calm_def (env : List (Option Vl)) (vs : List Nat) : calmSlots env vs = vs.all fun v => match env[v]? with
  | some (some (.ow _)) => false
  | some _ => true
  | none => false := (rfl)
@[simp] theorem setAll_nil (env : List (Option Vl)) (vs : List Vl) : setAll env [] vs = env := by cases vs <;> rfl
@[simp] theorem setAll_cons (env : List (Option Vl)) (i : Nat) (is : List Nat) (v : Vl) (vs : List Vl) : setAll env (i :: is) (v :: vs) = setAll (env.set i (some v)) is vs := (rfl)
/-! isinstance -/
section
variable (om : List Cell) (i : Int) (b : Bool) (x : Str) (xs : List D)
@[simp] theorem isa_int_int : (D.int i).isA om .int = some true := (rfl)
@[simp] theorem isa_int_bool : (D.int i).isA om .bool = some false := (rfl)
@[simp] theorem isa_int_tuple : (D.int i).isA om .tuple = some false := (rfl)
@[simp] theorem isa_int_list : (D.int i).isA om .list = some false := (rfl)
@[simp] theorem isa_tup_tuple : (D.tup xs).isA om .tuple = some true := (rfl)
@[simp] theorem isa_non (t : Ty) : D.non.isA om t = some false := (rfl)
@[simp] theorem isa_bl_bool : (D.bl b).isA om .bool = some true := (rfl)
end
end Mini

set_option linter.all false
set_option maxRecDepth 100000
/-! PyLaw: the laws' own source of draws. -/
namespace Mini.Lib
open Mini PySem
def F_law_source : Fn := runDef 8
  (sSeq (sPar [3, 4, 5] [(eLstC aNil), (eOp oAdd (eInt 12345) (eVar 1)), (eB bMin (aCons (eB bLen (aCons (eVar 0) aNil)) (aCons (eInt 63) aNil)))]) (sSeq (sFor (iRange1 (aCons (eVar 5) aNil)) (gNm 2) (sSeq (sSet 6 (eB bInt (aCons (eOp oIx (eVar 0) (eOp oMod (eOp oAdd (eVar 1) (eVar 2)) (eVar 5))) aNil))) (sSeq (sSet 7 (eB bAbs (aCons (eVar 6) aNil))) (sSeq (sSet 4 (eOp oMod (eB bInt (aCons (eOp oAdd (eOp oAdd (eOp oAdd (eOp oMul (eVar 4) (eInt 16807)) (eOp oMod (eVar 7) (eInt 998244353))) (eVar 2)) (eIf (tBl (eOp oLt (eVar 6) (eInt 0))) (eInt 2) (eInt 1))) aNil)) (eInt 2147483647))) (sIf (tBl (eOp oGe (eVar 7) (eOp oPow (eInt 10) (eInt 18)))) (sAppC (eVar 3) (eOp oMod (eVar 7) (eOp oPow (eOp oPow (eInt 10) (eInt 60)) (eInt 4)))) sPass))))) (sRet (eDisp ["left", "now", "seed", "turn"] (aCons (eVar 3) (aCons (eInt 0) (aCons (eVar 4) (aCons (eInt 0) aNil))))))))
def F_law_pick : Fn := runDef 3
  (sSeq (sIf (tBl (eOp oLt (eVar 1) (eInt 2))) (sRet (eInt 0)) sPass) (sSeq (sWhile fuel (tAnd (tBl (eOp oLt (eDGet (eVar 0) (eStr "now")) (eInt 2))) (tTru (eDGet (eVar 0) (eStr "left")))) (sDPut (eVar 0) (eStr "now") (ePopC (eDGet (eVar 0) (eStr "left")) (eInt 0)))) (sSeq (sIf (tBl (eOp oGt (eDGet (eVar 0) (eStr "now")) (eInt 1))) (sSeq (sSet 2 (eOp oMod (eB bInt (aCons (eDGet (eVar 0) (eStr "now")) aNil)) (eVar 1))) (sSeq (sDPut (eVar 0) (eStr "now") (eOp oDiv (eDGet (eVar 0) (eStr "now")) (eVar 1))) (sRet (eOwn 2)))) sPass) (sSeq (sDPut (eVar 0) (eStr "turn") (eOp oAdd (eDGet (eVar 0) (eStr "turn")) (eInt 1))) (sSeq (sDPut (eVar 0) (eStr "seed") (eOp oMod (eB bInt (aCons (eOp oAdd (eOp oAdd (eOp oMul (eDGet (eVar 0) (eStr "seed")) (eInt 48271)) (eOp oMul (eDGet (eVar 0) (eStr "turn")) (eInt 7919))) (eInt 13)) aNil)) (eInt 2147483647))) (sRet (eOp oMod (eB bInt (aCons (eOp oAdd (eOp oDiv (eDGet (eVar 0) (eStr "seed")) (eInt 127)) (eOp oDiv (eOp oMul (eDGet (eVar 0) (eStr "seed")) (eInt 31)) (eInt 8191))) aNil)) (eVar 1))))))))
def F_law_within : Fn := runDef 3
  (sRet (eOp oAdd (eVar 1) (eCall F_law_pick (aCons (eVar 0) (aCons (eOp oAdd (eOp oSub (eVar 2) (eVar 1)) (eInt 1)) aNil)))))
def F_law_one : Fn := runDef 2
  (sRet (eOp oIx (eVar 1) (eCall F_law_pick (aCons (eVar 0) (aCons (eB bLen (aCons (eVar 1) aNil)) aNil)))))
def F_law_shuffled : Fn := runDef 5
  (sSeq (sPar [3, 4] [(eB bList (aCons (eVar 1) aNil)), (eLst aNil)]) (sSeq (sFor (iRange1 (aCons (eB bLen (aCons (eVar 1) aNil)) aNil)) (gNm 2) (sApp 4 (ePopV 3 (eCall F_law_pick (aCons (eVar 0) (aCons (eLenV 3) aNil)))))) (sRet (eOwn 4))))
/-- the source's dict -/
def srcD (n s t : Int) : List (Ky × D) := [(.inr "left", .cell 0), (.inr "now", .int n), (.inr "seed", .int s), (.inr "turn", .int t)]
def srcM (l : List Int) (n s t : Int) (rest : List Cell) : List Cell := .lst (l.map .int) :: .dK (srcD n s t) :: rest
/-- the store: the source's list and dict, then the rest -/
def Src (om rest : List Cell) : Prop := ∃ l n s t, om = srcM l n s t rest ∧ l.length ≤ 63
section
variable (n s t x : Int)
@[simp] theorem g_left : kvGet (srcD n s t) (.inr "left") = some (.cell 0) := rfl
@[simp] theorem g_now : kvGet (srcD n s t) (.inr "now") = some (.int n) := rfl
@[simp] theorem g_seed : kvGet (srcD n s t) (.inr "seed") = some (.int s) := rfl
@[simp] theorem g_turn : kvGet (srcD n s t) (.inr "turn") = some (.int t) := rfl
@[simp] theorem p_now : kvPut (srcD n s t) (.inr "now") (.int x) = srcD x s t := rfl
@[simp] theorem p_seed : kvPut (srcD n s t) (.inr "seed") (.int x) = srcD n x t := rfl
@[simp] theorem p_turn : kvPut (srcD n s t) (.inr "turn") (.int x) = srcD n s x := rfl
@[simp] theorem srcD_len : (srcD n s t).length = 4 := rfl
variable (l : List Int) (rest : List Cell)
@[simp] theorem m_0 : (srcM l n s t rest)[0]? = some (.lst (l.map .int)) := rfl
@[simp] theorem m_1 : (srcM l n s t rest)[1]? = some (.dK (srcD n s t)) := rfl
@[simp] theorem st_0 (l' : List Int) : (srcM l n s t rest).set 0 (.lst (l'.map .int)) = srcM l' n s t rest := rfl
@[simp] theorem st_1 (n' s' t' : Int) : (srcM l n s t rest).set 1 (.dK (srcD n' s' t')) = srcM l n' s' t' rest := rfl
end
theorem fuel_63 : 63 < fuel := by decide +kernel
theorem rangeD_succ (lo : Int) (n : Nat) : rangeD lo (n + 1) = .int lo :: rangeD (lo + 1) n := by
  unfold rangeD
  rw [List.range_succ_eq_map, List.map_cons, List.map_map]
  simp only [Int.natCast_zero, Int.add_zero, List.cons.injEq, true_and]
  refine List.map_congr_left fun k _ => ?_
  simp only [Function.comp, D.int.injEq]
  omega
theorem pick_while (env : List (Option Vl)) (h0 : env[0]? = some (some (.sh (.cell 1)))) (s t : Int) (rest : List Cell) : ∀ (k : Nat) (l : List Int) (n : Int), l.length < k →
    ∃ l' n', l'.length ≤ l.length ∧ whileGo (tAnd (tBl (eOp oLt (eDGet (eVar 0) (eStr "now")) (eInt 2))) (tTru (eDGet (eVar 0) (eStr "left")))) (sDPut (eVar 0) (eStr "now") (ePopC (eDGet (eVar 0) (eStr "left")) (eInt 0))) k ⟨env, srcM l n s t rest⟩ = .nx ⟨env, srcM l' n' s t rest⟩ := by
  intro k
  induction k with
  | zero => intro l n h; omega
  | succ k ih =>
    intro l n h
    rw [x_whileS]
    by_cases hn : n < 2
    · cases l with
      | nil => exact ⟨[], n, Nat.le_refl _, by simp [h0, hn]⟩
      | cons x l =>
        obtain ⟨l', n', hl, e⟩ := ih l x (by simpa using h)
        refine ⟨l', n', by simp; omega, ?_⟩
        rw [← e]
        have : List.eraseIdx (List.map D.int (x :: l)) 0 = List.map D.int l := rfl
        simp [h0, hn]
    · exact ⟨l, n, Nat.le_refl _, by simp [h0, hn]⟩
theorem pick_ok {om rest : List Cell} (h : Src om rest) {m : Int} (hm : m.natAbs < 2 ^ 9000) : ∃ r om', F_law_pick [.cell 1, .int m] om = .ok (.sh (.int r)) om' ∧ Src om' rest ∧ 0 ≤ r ∧ (2 ≤ m → r < m) ∧ (m < 2 → r = 0) := by
  obtain ⟨l, n, s, t, rfl, hl⟩ := h
  by_cases h2 : m < 2
  · exact ⟨0, srcM l n s t rest, by simp [F_law_pick, h2], ⟨_, _, _, _, rfl, hl⟩, by omega, by omega, by omega⟩
  · have hp : 0 < m := by omega
    obtain ⟨l', n', hl', e⟩ := pick_while [some (.sh (.cell 1)), some (.sh (.int m)), none] rfl s t rest fuel l n (Nat.lt_of_le_of_lt hl fuel_63)
    by_cases h1 : 1 < n'
    · exact ⟨n' % m, srcM l' (n' / m) s t rest, by simp [F_law_pick, h2, e, h1, hp, v_div hp hm], ⟨_, _, _, _, rfl, by omega⟩, Int.emod_nonneg _ (by omega), fun _ => Int.emod_lt_of_pos _ hp, by omega⟩
    · exact ⟨_, srcM l' n' ((s * 48271 + (t + 1) * 7919 + 13) % 2147483647) (t + 1) rest, by simp [F_law_pick, h2, e, h1, hp]; rfl, ⟨_, _, _, _, rfl, by omega⟩, Int.emod_nonneg _ (by omega), fun _ => Int.emod_lt_of_pos _ hp, by omega⟩
theorem within_ok {om rest : List Cell} (h : Src om rest) {lo hi : Int} (hm : (hi - lo + 1).natAbs < 2 ^ 9000) (hle : lo ≤ hi) :
    ∃ r om', F_law_within [.cell 1, .int lo, .int hi] om = .ok (.sh (.int r)) om' ∧ Src om' rest ∧ lo ≤ r ∧ r ≤ hi := by
  obtain ⟨r, om', e, h', h0, h1, h2⟩ := pick_ok h hm
  exact ⟨lo + r, om', by simp [F_law_within, e], h', by omega, by omega⟩
theorem one_ok {om rest : List Cell} (h : Src om rest) {xs : List D} (hx : xs ≠ []) (hl : xs.length ≤ many) :
    ∃ d om', F_law_one [.cell 1, .lst xs] om = .ok (.sh d) om' ∧ Src om' rest ∧ d ∈ xs := by
  have hp : 0 < xs.length := List.length_pos_iff.mpr hx
  have hl : xs.length ≤ 100000 := hl
  obtain ⟨r, om', e, h', h0, h1, h2⟩ := pick_ok h (m := xs.length) (pow9000 (k := 20) (by omega))
  have hr : r < xs.length := by omega
  exact ⟨_, om', by simp [F_law_one, e, at_pos h0 hr]; rfl, h', List.getElem_mem _⟩
theorem perm_out : ∀ {α : Type} {xs : List α} {i : Nat} (h : i < xs.length), (xs[i] :: xs.eraseIdx i).Perm xs
  | _, x :: xs, 0, _ => .refl _
  | _, x :: xs, i + 1, h => (List.Perm.swap _ _ _).trans (.cons x (perm_out (xs := xs) (i := i) (by simpa using h)))
theorem shuf_go (d0 d1 : Option Vl) (rest : List Cell) (hd : d0 = some (.sh (.cell 1))) : ∀ (n : Nat) (lo : Int) (om : List Cell) (xs ys : List D) (d2 : Option Vl), Src om rest → xs.length = n → xs.length + ys.length ≤ many →
    ∃ zs om' d2', forGo (gNm 2) (sApp 4 (ePopV 3 (eCall F_law_pick (aCons (eVar 0) (aCons (eLenV 3) aNil))))) (rangeD lo n) ⟨[d0, d1, d2, some (.ow xs), some (.ow ys)], om⟩ = .nx ⟨[d0, d1, d2', some (.ow []), some (.ow zs)], om'⟩ ∧ Src om' rest ∧ zs.Perm (ys ++ xs) := by
  subst hd
  intro n
  induction n with
  | zero =>
    intro lo om xs ys d2 h hx hl
    obtain rfl := List.length_eq_zero_iff.mp hx
    exact ⟨ys, om, d2, rfl, h, by simp⟩
  | succ n ih =>
    intro lo om xs ys d2 h hx hl
    have hl : xs.length + ys.length ≤ 100000 := hl
    obtain ⟨r, om', e, h', h0, h1, h2⟩ := pick_ok h (m := xs.length) (pow9000 (k := 20) (by omega))
    have hr : r < xs.length := by omega
    have hr' : r.toNat < xs.length := by omega
    obtain ⟨zs, om2, d2', e2, h2', p⟩ := ih (lo + 1) om' (xs.eraseIdx r.toNat) (ys ++ [xs[r.toNat]]) (some (.sh (.int lo))) h' (by rw [List.length_eraseIdx, if_pos hr', hx]; rfl) (by rw [List.length_eraseIdx, if_pos hr', List.length_append]; simp only [List.length_cons, List.length_nil, many_n]; omega)
    refine ⟨zs, om2, d2', ?_, h2', ?_⟩
    · rw [← e2, rangeD_succ, x_forCons]
      simp only [hx, Int.natCast_succ] at e hr
      simp [e, h0, show r < 1000000 by omega, hr', hr, hx, show ys.length < 100000 by omega]
    · refine p.trans ?_
      rw [List.append_assoc]
      refine List.Perm.append_left _ ?_
      simpa using perm_out hr'
theorem shuf_ok {om rest : List Cell} (h : Src om rest) {xs : List D} (hl : xs.length ≤ many) :
    ∃ zs om', F_law_shuffled [.cell 1, .lst xs] om = .ok (.ow zs) om' ∧ Src om' rest ∧ zs.Perm xs := by
  obtain ⟨zs, om', d2, e, h', p⟩ := shuf_go (some (.sh (.cell 1))) (some (.sh (.lst xs))) rest rfl xs.length 0 om xs [] none h rfl (by simpa using hl)
  refine ⟨zs, om', ?_, h', by simpa using p⟩
  have hl : xs.length ≤ 100000 := hl
  simp [F_law_shuffled, e, show (xs.length : Int) < 4000000000000000000 by omega, show (-4000000000000000000 : Int) ≤ xs.length by omega]
theorem source_go (d1 : Option Vl) (ns : List Int) (hn : ns ≠ []) (hm : ns.length ≤ 63) (a : Int) (hd : d1 = some (.sh (.int a))) : ∀ (n : Nat) (lo : Int) (l : List Int) (s : Int) (d2 d6 d7 : Option Vl), l.length + n ≤ 63 → 
    ∃ (l' : List Int) (s' : Int) (d2' d6' d7' : Option Vl), l'.length ≤ 63 ∧ forGo (gNm 2) (sSeq (sSet 6 (eB bInt (aCons (eOp oIx (eVar 0) (eOp oMod (eOp oAdd (eVar 1) (eVar 2)) (eVar 5))) aNil))) (sSeq (sSet 7 (eB bAbs (aCons (eVar 6) aNil))) (sSeq (sSet 4 (eOp oMod (eB bInt (aCons (eOp oAdd (eOp oAdd (eOp oAdd (eOp oMul (eVar 4) (eInt 16807)) (eOp oMod (eVar 7) (eInt 998244353))) (eVar 2)) (eIf (tBl (eOp oLt (eVar 6) (eInt 0))) (eInt 2) (eInt 1))) aNil)) (eInt 2147483647))) (sIf (tBl (eOp oGe (eVar 7) (eOp oPow (eInt 10) (eInt 18)))) (sAppC (eVar 3) (eOp oMod (eVar 7) (eOp oPow (eOp oPow (eInt 10) (eInt 60)) (eInt 4)))) sPass)))) (rangeD lo n) ⟨[some (.sh (.scr ns)), d1, d2, some (.sh (.cell 0)), some (.sh (.int s)), some (.sh (.int ns.length)), d6, d7], [.lst (l.map .int)]⟩
      = .nx ⟨[some (.sh (.scr ns)), d1, d2', some (.sh (.cell 0)), some (.sh (.int s')), some (.sh (.int ns.length)), d6', d7'], [.lst (l'.map .int)]⟩ := by
  subst hd
  intro n
  induction n with
  | zero => intro lo l s d2 d6 d7 h; exact ⟨l, s, d2, d6, d7, by omega, rfl⟩
  | succ n ih =>
    intro lo l s d2 d6 d7 h
    have hp : 0 < ns.length := List.length_pos_iff.mpr hn
    have h0 : 0 ≤ (a + lo) % (ns.length : Int) := Int.emod_nonneg _ (by omega)
    have h1 : (a + lo) % (ns.length : Int) < ns.length := Int.emod_lt_of_pos _ (by omega)
    have p18 : (10 : Int) ^ 18 = 1000000000000000000 := by decide
    rw [rangeD_succ, x_forCons]
    obtain ⟨raw, hraw⟩ : ∃ raw, raw = ns[((a + lo) % (ns.length : Int)).toNat]'(by omega) := ⟨_, rfl⟩
    let s1 := (s * 16807 + ((raw.natAbs : Int) % 998244353) + lo + (if raw < 0 then 2 else 1)) % 2147483647
    by_cases hc : 1000000000000000000 ≤ (raw.natAbs : Int)
    · obtain ⟨l', s', d2', d6', d7', hl, e⟩ := ih (lo + 1) (l ++ [(raw.natAbs : Int) % 10 ^ 240]) s1 (some (.sh (.int lo))) (some (.sh (.int raw))) (some (.sh (.int raw.natAbs))) (by simp; omega)
      refine ⟨l', s', d2', d6', d7', hl, ?_⟩
      rw [← e]
      have hr : raw < 0 ∨ ¬ raw < 0 := by omega
      rcases hr with hr | hr <;> simp [at_pos h0 h1, hp, ← hraw, hc, hr, s1, show l.length < 100000 by omega]
    · obtain ⟨l', s', d2', d6', d7', hl, e⟩ := ih (lo + 1) l s1 (some (.sh (.int lo))) (some (.sh (.int raw))) (some (.sh (.int raw.natAbs))) (by omega)
      refine ⟨l', s', d2', d6', d7', hl, ?_⟩
      rw [← e]
      have hr : raw < 0 ∨ ¬ raw < 0 := by omega
      rcases hr with hr | hr <;> simp [at_pos h0 h1, hp, ← hraw, hc, hr, s1, show l.length < 100000 by omega]
theorem source_ok (ns : List Int) (hm : ns.length ≤ 63) (a : Int) : ∃ om, F_law_source [.scr ns, .int a] [] = .ok (.sh (.cell 1)) om ∧ Src om [] := by
  have hmin : min (ns.length : Int) 63 = ns.length := by omega
  by_cases hn : ns = []
  · subst hn
    exact ⟨srcM [] 0 (12345 + a) 0 [], by simp [F_law_source, rangeD]; rfl, _, _, _, _, rfl, by simp⟩
  · obtain ⟨l', s', d2, d6, d7, hl, e⟩ := source_go (some (.sh (.int a))) ns hn hm a rfl ns.length 0 [] (12345 + a) none none none (by simpa using hm)
    refine ⟨srcM l' 0 s' 0 [], ?_, _, _, _, _, rfl, hl⟩
    simp only [List.map_nil] at e
    simp [F_law_source, hmin, e, show (ns.length : Int) < 4000000000000000000 by omega, show (-4000000000000000000 : Int) ≤ ns.length by omega]
    rfl
theorem comp_filter (g : EvG) (t : EvT) (e : EvE) (vs : List Nat) (p : D → Bool) (v : D → D) (st : St) : ∀ (xs acc : List D), acc.length + xs.length ≤ many →
    (∀ x ∈ xs, ∃ s1 s2, g x st = some s1 ∧ t s1 = .ok (p x) s2 ∧ (p x = true → ∃ y s3, e s2 = .ok y s3 ∧ y.d = v x ∧ { s3 with env := wipeEnv s3.env vs } = st) ∧ { s2 with env := wipeEnv s2.env vs } = st) →
    compGo g t e vs xs acc st = .ok (acc ++ (xs.filter p).map v) st
  | [], acc, _, _ => by simp
  | x :: xs, acc, hl, h => by
    obtain ⟨s1, s2, e1, e2, e3, e4⟩ := h x (by simp)
    have hl' : acc.length + (xs.length + 1) ≤ 100000 := by simpa using hl
    rw [x_compCons, e1]
    simp only [e2, r_ok]
    cases hp : p x with
    | false =>
      simp only [Bool.false_eq_true, if_false, e4]
      rw [comp_filter g t e vs p v st xs acc (by simp only [many_n]; omega) fun y hy => h y (by simp [hy])]
      simp [hp]
    | true =>
      obtain ⟨y, s3, e5, e6, e7⟩ := e3 hp
      simp only [if_true, e5, r_ok, show acc.length < many by simp only [many_n]; omega, e6, e7]
      rw [comp_filter g t e vs p v st xs (acc ++ [v x]) (by simp only [many_n, List.length_append, List.length_cons, List.length_nil]; omega) fun y hy => h y (by simp [hy])]
      simp [hp]
theorem comp_map (g : EvG) (e : EvE) (vs : List Nat) (v : D → D) (st : St) (xs : List D) (hl : xs.length ≤ many)
    (h : ∀ x ∈ xs, ∃ s1 y s3, g x st = some s1 ∧ e s1 = .ok y s3 ∧ y.d = v x ∧ { s1 with env := wipeEnv s1.env vs } = st ∧ { s3 with env := wipeEnv s3.env vs } = st) :
    compGo g tYes e vs xs [] st = .ok (xs.map v) st := by
  rw [comp_filter g tYes e vs (fun _ => true) v st xs [] (by simpa using hl) fun x hx => ?_]
  · rw [List.filter_eq_self.mpr fun _ _ => rfl]; rfl
  · obtain ⟨s1, y, s3, e1, e2, e3, e4, e5⟩ := h x hx
    exact ⟨s1, s1, e1, rfl, fun _ => ⟨y, s3, e2, e3, e5⟩, e4⟩
/-- a loop that returns v at the first item that fails -/
theorem for_all {g : EvG} {b : EvS} {v : Vl} (I J : St → Prop) (p : D → Bool) : ∀ (xs : List D) (st : St), I st →
    (∀ x ∈ xs, ∀ st, I st → ∃ s1, g x st = some s1 ∧ (p x = true → ∃ s2, b s1 = .nx s2 ∧ I s2) ∧ (p x = false → ∃ s2, b s1 = .rt v s2 ∧ J s2)) →
    (xs.all p = true ∧ ∃ s', forGo g b xs st = .nx s' ∧ I s') ∨ (xs.all p = false ∧ ∃ s', forGo g b xs st = .rt v s' ∧ J s')
  | [], st, hI, _ => .inl ⟨rfl, st, rfl, hI⟩
  | x :: xs, st, hI, h => by
    obtain ⟨s1, e1, h1, h2⟩ := h x (by simp) st hI
    rw [x_forCons]
    cases hp : p x with
    | true =>
      obtain ⟨s2, e2, hI2⟩ := h1 hp
      simp only [e1, e2]
      rcases for_all I J p xs s2 hI2 fun y hy => h y (by simp [hy]) with ⟨a, s', e, i⟩ | ⟨a, s', e, i⟩
      · exact .inl ⟨by simp [hp, a], s', e, i⟩
      · exact .inr ⟨by simp [hp, a], s', e, i⟩
    | false =>
      obtain ⟨s2, e2, hJ⟩ := h2 hp
      simp only [e1, e2]
      exact .inr ⟨by simp [hp], s2, rfl, hJ⟩
/-- a loop with an invariant of what is left -/
theorem for_inv {g : EvG} {b : EvS} (I : List D → St → Prop) : ∀ (xs : List D) (st : St), I xs st →
    (∀ x xs st, I (x :: xs) st → ∃ s1 s2, g x st = some s1 ∧ (b s1 = .nx s2 ∨ b s1 = .ct s2) ∧ I xs s2) → ∃ s', forGo g b xs st = .nx s' ∧ I [] s'
  | [], st, hI, _ => ⟨st, rfl, hI⟩
  | x :: xs, st, hI, h => by
    obtain ⟨s1, s2, e1, e2, hI2⟩ := h x xs st hI
    rw [x_forCons]
    rcases e2 with e2 | e2
    · simp only [e1, e2]; exact for_inv I xs s2 hI2 h
    · simp only [e1, e2]; exact for_inv I xs s2 hI2 h
end Mini.Lib

set_option linter.all false
set_option maxRecDepth 100000
/-! PyLawT: the laws' source of draws behind the cells pre (tables of code objects). -/
namespace Mini.LibT
open Mini PySem
open Mini.Lib (F_law_source F_law_pick F_law_within F_law_one F_law_shuffled fuel_63 rangeD_succ perm_out)
/-- the source's dict -/
def srcD (m : Nat) (n s t : Int) : List (Ky × D) := [(.inr "left", .cell m), (.inr "now", .int n), (.inr "seed", .int s), (.inr "turn", .int t)]
def srcM (pre : List Cell) (l : List Int) (n s t : Int) (rest : List Cell) : List Cell := pre ++ (.lst (l.map .int) :: .dK (srcD pre.length n s t) :: rest)
/-- the store: the source's list and dict, then the rest -/
def Src (pre om rest : List Cell) : Prop := ∃ l n s t, om = srcM pre l n s t rest ∧ l.length ≤ 63
section
variable (m : Nat) (n s t x : Int)
@[simp] theorem g_left : kvGet (srcD m n s t) (.inr "left") = some (.cell m) := rfl
@[simp] theorem g_now : kvGet (srcD m n s t) (.inr "now") = some (.int n) := rfl
@[simp] theorem g_seed : kvGet (srcD m n s t) (.inr "seed") = some (.int s) := rfl
@[simp] theorem g_turn : kvGet (srcD m n s t) (.inr "turn") = some (.int t) := rfl
@[simp] theorem p_now : kvPut (srcD m n s t) (.inr "now") (.int x) = srcD m x s t := rfl
@[simp] theorem p_seed : kvPut (srcD m n s t) (.inr "seed") (.int x) = srcD m n x t := rfl
@[simp] theorem p_turn : kvPut (srcD m n s t) (.inr "turn") (.int x) = srcD m n s x := rfl
@[simp] theorem srcD_len : (srcD m n s t).length = 4 := rfl
variable (pre : List Cell) (l : List Int) (rest : List Cell)
@[simp] theorem m_0 : (srcM pre l n s t rest)[pre.length]? = some (.lst (l.map .int)) := by simp [srcM]
@[simp] theorem m_1 : (srcM pre l n s t rest)[pre.length + 1]? = some (.dK (srcD pre.length n s t)) := by simp [srcM]
@[simp] theorem st_0 (l' : List Int) : (srcM pre l n s t rest).set pre.length (.lst (l'.map .int)) = srcM pre l' n s t rest := by simp [srcM]
@[simp] theorem st_1 (n' s' t' : Int) : (srcM pre l n s t rest).set (pre.length + 1) (.dK (srcD pre.length n' s' t')) = srcM pre l n' s' t' rest := by simp [srcM]
end
theorem pick_while (pre : List Cell) (env : List (Option Vl)) (h0 : env[0]? = some (some (.sh (.cell (pre.length + 1))))) (s t : Int) (rest : List Cell) : ∀ (k : Nat) (l : List Int) (n : Int), l.length < k →
    ∃ l' n', l'.length ≤ l.length ∧ whileGo (tAnd (tBl (eOp oLt (eDGet (eVar 0) (eStr "now")) (eInt 2))) (tTru (eDGet (eVar 0) (eStr "left")))) (sDPut (eVar 0) (eStr "now") (ePopC (eDGet (eVar 0) (eStr "left")) (eInt 0))) k ⟨env, srcM pre l n s t rest⟩ = .nx ⟨env, srcM pre l' n' s t rest⟩ := by
  intro k
  induction k with
  | zero => intro l n h; omega
  | succ k ih =>
    intro l n h
    rw [x_whileS]
    by_cases hn : n < 2
    · cases l with
      | nil => exact ⟨[], n, Nat.le_refl _, by simp [h0, hn]⟩
      | cons x l =>
        obtain ⟨l', n', hl, e⟩ := ih l x (by simpa using h)
        refine ⟨l', n', by simp; omega, ?_⟩
        rw [← e]
        have : List.eraseIdx (List.map D.int (x :: l)) 0 = List.map D.int l := rfl
        simp [h0, hn]
    · exact ⟨l, n, Nat.le_refl _, by simp [h0, hn]⟩
theorem pick_ok {pre om rest : List Cell} (h : Src pre om rest) {m : Int} (hm : m.natAbs < 2 ^ 9000) : ∃ r om', F_law_pick [.cell (pre.length + 1), .int m] om = .ok (.sh (.int r)) om' ∧ Src pre om' rest ∧ 0 ≤ r ∧ (2 ≤ m → r < m) ∧ (m < 2 → r = 0) := by
  obtain ⟨l, n, s, t, rfl, hl⟩ := h
  by_cases h2 : m < 2
  · exact ⟨0, srcM pre l n s t rest, by simp [F_law_pick, h2], ⟨_, _, _, _, rfl, hl⟩, by omega, by omega, by omega⟩
  · have hp : 0 < m := by omega
    obtain ⟨l', n', hl', e⟩ := pick_while pre [some (.sh (.cell (pre.length + 1))), some (.sh (.int m)), none] rfl s t rest fuel l n (Nat.lt_of_le_of_lt hl fuel_63)
    by_cases h1 : 1 < n'
    · exact ⟨n' % m, srcM pre l' (n' / m) s t rest, by simp [F_law_pick, h2, e, h1, hp, v_div hp hm], ⟨_, _, _, _, rfl, by omega⟩, Int.emod_nonneg _ (by omega), fun _ => Int.emod_lt_of_pos _ hp, by omega⟩
    · exact ⟨_, srcM pre l' n' ((s * 48271 + (t + 1) * 7919 + 13) % 2147483647) (t + 1) rest, by simp [F_law_pick, h2, e, h1, hp]; rfl, ⟨_, _, _, _, rfl, by omega⟩, Int.emod_nonneg _ (by omega), fun _ => Int.emod_lt_of_pos _ hp, by omega⟩
theorem within_ok {pre om rest : List Cell} (h : Src pre om rest) {lo hi : Int} (hm : (hi - lo + 1).natAbs < 2 ^ 9000) (hle : lo ≤ hi) :
    ∃ r om', F_law_within [.cell (pre.length + 1), .int lo, .int hi] om = .ok (.sh (.int r)) om' ∧ Src pre om' rest ∧ lo ≤ r ∧ r ≤ hi := by
  obtain ⟨r, om', e, h', h0, h1, h2⟩ := pick_ok h hm
  exact ⟨lo + r, om', by simp [F_law_within, e], h', by omega, by omega⟩
theorem one_ok {pre om rest : List Cell} (h : Src pre om rest) {xs : List D} (hx : xs ≠ []) (hl : xs.length ≤ many) :
    ∃ d om', F_law_one [.cell (pre.length + 1), .lst xs] om = .ok (.sh d) om' ∧ Src pre om' rest ∧ d ∈ xs := by
  have hp : 0 < xs.length := List.length_pos_iff.mpr hx
  have hl : xs.length ≤ 100000 := hl
  obtain ⟨r, om', e, h', h0, h1, h2⟩ := pick_ok h (m := xs.length) (pow9000 (k := 20) (by omega))
  have hr : r < xs.length := by omega
  exact ⟨_, om', by simp [F_law_one, e, at_pos h0 hr]; rfl, h', List.getElem_mem _⟩
theorem shuf_go (pre : List Cell) (d0 d1 : Option Vl) (rest : List Cell) (hd : d0 = some (.sh (.cell (pre.length + 1)))) : ∀ (n : Nat) (lo : Int) (om : List Cell) (xs ys : List D) (d2 : Option Vl), Src pre om rest → xs.length = n → xs.length + ys.length ≤ many →
    ∃ zs om' d2', forGo (gNm 2) (sApp 4 (ePopV 3 (eCall F_law_pick (aCons (eVar 0) (aCons (eLenV 3) aNil))))) (rangeD lo n) ⟨[d0, d1, d2, some (.ow xs), some (.ow ys)], om⟩ = .nx ⟨[d0, d1, d2', some (.ow []), some (.ow zs)], om'⟩ ∧ Src pre om' rest ∧ zs.Perm (ys ++ xs) := by
  subst hd
  intro n
  induction n with
  | zero =>
    intro lo om xs ys d2 h hx hl
    obtain rfl := List.length_eq_zero_iff.mp hx
    exact ⟨ys, om, d2, rfl, h, by simp⟩
  | succ n ih =>
    intro lo om xs ys d2 h hx hl
    have hl : xs.length + ys.length ≤ 100000 := hl
    obtain ⟨r, om', e, h', h0, h1, h2⟩ := pick_ok h (m := xs.length) (pow9000 (k := 20) (by omega))
    have hr : r < xs.length := by omega
    have hr' : r.toNat < xs.length := by omega
    obtain ⟨zs, om2, d2', e2, h2', p⟩ := ih (lo + 1) om' (xs.eraseIdx r.toNat) (ys ++ [xs[r.toNat]]) (some (.sh (.int lo))) h' (by rw [List.length_eraseIdx, if_pos hr', hx]; rfl) (by rw [List.length_eraseIdx, if_pos hr', List.length_append]; simp only [List.length_cons, List.length_nil, many_n]; omega)
    refine ⟨zs, om2, d2', ?_, h2', ?_⟩
    · rw [← e2, rangeD_succ, x_forCons]
      simp only [hx, Int.natCast_succ] at e hr
      simp [e, h0, show r < 1000000 by omega, hr', hr, hx, show ys.length < 100000 by omega]
    · refine p.trans ?_
      rw [List.append_assoc]
      refine List.Perm.append_left _ ?_
      simpa using perm_out hr'
theorem shuf_ok {pre om rest : List Cell} (h : Src pre om rest) {xs : List D} (hl : xs.length ≤ many) :
    ∃ zs om', F_law_shuffled [.cell (pre.length + 1), .lst xs] om = .ok (.ow zs) om' ∧ Src pre om' rest ∧ zs.Perm xs := by
  obtain ⟨zs, om', d2, e, h', p⟩ := shuf_go pre (some (.sh (.cell (pre.length + 1)))) (some (.sh (.lst xs))) rest rfl xs.length 0 om xs [] none h rfl (by simpa using hl)
  refine ⟨zs, om', ?_, h', by simpa using p⟩
  have hl : xs.length ≤ 100000 := hl
  simp [F_law_shuffled, e, show (xs.length : Int) < 4000000000000000000 by omega, show (-4000000000000000000 : Int) ≤ xs.length by omega]
theorem source_go (pre : List Cell) (d1 : Option Vl) (ns : List Int) (hn : ns ≠ []) (hm : ns.length ≤ 63) (a : Int) (hd : d1 = some (.sh (.int a))) : ∀ (n : Nat) (lo : Int) (l : List Int) (s : Int) (d2 d6 d7 : Option Vl), l.length + n ≤ 63 → 
    ∃ (l' : List Int) (s' : Int) (d2' d6' d7' : Option Vl), l'.length ≤ 63 ∧ forGo (gNm 2) (sSeq (sSet 6 (eB bInt (aCons (eOp oIx (eVar 0) (eOp oMod (eOp oAdd (eVar 1) (eVar 2)) (eVar 5))) aNil))) (sSeq (sSet 7 (eB bAbs (aCons (eVar 6) aNil))) (sSeq (sSet 4 (eOp oMod (eB bInt (aCons (eOp oAdd (eOp oAdd (eOp oAdd (eOp oMul (eVar 4) (eInt 16807)) (eOp oMod (eVar 7) (eInt 998244353))) (eVar 2)) (eIf (tBl (eOp oLt (eVar 6) (eInt 0))) (eInt 2) (eInt 1))) aNil)) (eInt 2147483647))) (sIf (tBl (eOp oGe (eVar 7) (eOp oPow (eInt 10) (eInt 18)))) (sAppC (eVar 3) (eOp oMod (eVar 7) (eOp oPow (eOp oPow (eInt 10) (eInt 60)) (eInt 4)))) sPass)))) (rangeD lo n) ⟨[some (.sh (.scr ns)), d1, d2, some (.sh (.cell pre.length)), some (.sh (.int s)), some (.sh (.int ns.length)), d6, d7], pre ++ [.lst (l.map .int)]⟩
      = .nx ⟨[some (.sh (.scr ns)), d1, d2', some (.sh (.cell pre.length)), some (.sh (.int s')), some (.sh (.int ns.length)), d6', d7'], pre ++ [.lst (l'.map .int)]⟩ := by
  subst hd
  intro n
  induction n with
  | zero => intro lo l s d2 d6 d7 h; exact ⟨l, s, d2, d6, d7, by omega, rfl⟩
  | succ n ih =>
    intro lo l s d2 d6 d7 h
    have hp : 0 < ns.length := List.length_pos_iff.mpr hn
    have h0 : 0 ≤ (a + lo) % (ns.length : Int) := Int.emod_nonneg _ (by omega)
    have h1 : (a + lo) % (ns.length : Int) < ns.length := Int.emod_lt_of_pos _ (by omega)
    have p18 : (10 : Int) ^ 18 = 1000000000000000000 := by decide
    rw [rangeD_succ, x_forCons]
    obtain ⟨raw, hraw⟩ : ∃ raw, raw = ns[((a + lo) % (ns.length : Int)).toNat]'(by omega) := ⟨_, rfl⟩
    let s1 := (s * 16807 + ((raw.natAbs : Int) % 998244353) + lo + (if raw < 0 then 2 else 1)) % 2147483647
    by_cases hc : 1000000000000000000 ≤ (raw.natAbs : Int)
    · obtain ⟨l', s', d2', d6', d7', hl, e⟩ := ih (lo + 1) (l ++ [(raw.natAbs : Int) % 10 ^ 240]) s1 (some (.sh (.int lo))) (some (.sh (.int raw))) (some (.sh (.int raw.natAbs))) (by simp; omega)
      refine ⟨l', s', d2', d6', d7', hl, ?_⟩
      rw [← e]
      have hr : raw < 0 ∨ ¬ raw < 0 := by omega
      rcases hr with hr | hr <;> simp [at_pos h0 h1, hp, ← hraw, hc, hr, s1, show l.length < 100000 by omega]
    · obtain ⟨l', s', d2', d6', d7', hl, e⟩ := ih (lo + 1) l s1 (some (.sh (.int lo))) (some (.sh (.int raw))) (some (.sh (.int raw.natAbs))) (by omega)
      refine ⟨l', s', d2', d6', d7', hl, ?_⟩
      rw [← e]
      have hr : raw < 0 ∨ ¬ raw < 0 := by omega
      rcases hr with hr | hr <;> simp [at_pos h0 h1, hp, ← hraw, hc, hr, s1, show l.length < 100000 by omega]
theorem source_ok (pre : List Cell) (ns : List Int) (hm : ns.length ≤ 63) (a : Int) : ∃ om, F_law_source [.scr ns, .int a] pre = .ok (.sh (.cell (pre.length + 1))) om ∧ Src pre om [] := by
  have hmin : min (ns.length : Int) 63 = ns.length := by omega
  by_cases hn : ns = []
  · subst hn
    exact ⟨srcM pre [] 0 (12345 + a) 0 [], by simp [F_law_source, rangeD, show min (0 : Int) 63 = 0 by decide]; rfl, _, _, _, _, rfl, by simp⟩
  · obtain ⟨l', s', d2, d6, d7, hl, e⟩ := source_go pre (some (.sh (.int a))) ns hn hm a rfl ns.length 0 [] (12345 + a) none none none (by simpa using hm)
    refine ⟨srcM pre l' 0 s' 0 [], ?_, _, _, _, _, rfl, hl⟩
    simp only [List.map_nil] at e
    simp [F_law_source, hmin, e, show (ns.length : Int) < 4000000000000000000 by omega, show (-4000000000000000000 : Int) ≤ ns.length by omega]
    rfl
end Mini.LibT

set_option linter.all false
set_option maxRecDepth 100000
/-! PyLibX: the evaluator's further terms reckoned out by simp; small lemmas of lists. -/
namespace Mini
open PySem
section
variable (st : St) (i j : Nat) (a b c e : EvE) (d : D) (l : EvA) (g : EvG) (p : EvS) (lo hi : EvO)
@[simp] theorem x_raise1 (C f : Str) : sRaise1 C f e st = (e st).thenS fun v s1 => .ex ⟨C, [(f, v.d)]⟩ s1 := (rfl)
@[simp] theorem x_gtab (tab : List (Str × Int)) : eGTab tab b st = (b st).bind fun y s1 => match y.d with
  | .str z => (match tab.lookup z with
    | some i => .ok (.sh (.int i)) s1
    | none => .no)
  | _ => .no := (rfl)
@[simp] theorem x_pnone : pNone st = .ok none st := (rfl)
@[simp] theorem x_psome : pSome e st = (e st).bind fun x s1 => match x.d with
  | .int i => .ok (some i) s1
  | _ => .no := (rfl)
@[simp] theorem x_slL : eSlL a lo hi st = (a st).bind fun x s1 => (lo s1).bind fun l s2 => (hi s2).bind fun h s3 => match x.d with
  | .lst xs => .ok (.ow (cutD xs l h)) s3
  | _ => .no := (rfl)
@[simp] theorem x_tnew : eTNew st = .ok (.sh (.cell st.om.length)) { st with om := st.om ++ [.dT []] } := (rfl)
@[simp] theorem x_tget : eTGet a b st = (a st).bind fun x s1 => (b s1).bind fun y s2 => match x.d, y.d.kt? with
  | .cell n, some k => (match s2.om[n]? with
    | some (.dT kvs) => (match kvGet kvs k with
      | some d => .ok (.sh d) s2
      | none => .no)
    | _ => .no)
  | _, _ => .no := (rfl)
@[simp] theorem x_tin (neg : Bool) : eTIn neg b a st = (b st).bind fun y s1 => (a s1).bind fun x s2 => match x.d, y.d.kt? with
  | .cell n, some k => (match s2.om[n]? with
    | some (.dT kvs) => .ok (.sh (.bl ((kvGet kvs k).isSome != neg))) s2
    | _ => .no)
  | _, _ => .no := (rfl)
@[simp] theorem x_tput : sTPut a b e st = (e st).thenS fun v s1 => (a s1).thenS fun x s2 => (b s2).thenS fun y s3 => match x.d, y.d.kt? with
  | .cell n, some k => (match s3.om[n]? with
    | some (.dT kvs) => if kvs.length < many then .nx { s3 with om := s3.om.set n (.dT (kvPut kvs k v.d)) } else .no
    | _ => .no)
  | _, _ => .no := (rfl)
@[simp] theorem x_tsetd : eTSetd a b st = (a st).bind fun x s1 => match x.d with
  | .cell n => (match s1.om[n]? with
    | some (.dT _) => (b s1).bind fun y s2 => (match y.d.kt?, s2.om[n]? with
      | some k, some (.dT kvs) => if kvs.length < many then (match kvGet kvs k with
        | some d => .ok (.sh d) s2
        | none => .ok (.sh (.cell s2.om.length)) { s2 with om := (s2.om ++ [Cell.lst []]).set n (Cell.dT (kvPut kvs k (.cell s2.om.length))) }) else .no
      | _, _ => .no)
    | _ => .no)
  | _ => .no := (rfl)
@[simp] theorem x_ixput : sIxPut j b e st = (e st).thenS fun v s1 => match s1.env[j]? with
  | some (some (.ow _)) => (b s1).thenS fun y s2 => (match y.d, s2.env[j]? with
    | .int i, some (some (.ow xs)) => (match ixNat xs.length i with
      | some k => .nx { s2 with env := s2.env.set j (some (.ow (xs.set k v.d))) }
      | none => .no)
    | _, _ => .no)
  | _ => .no := (rfl)
@[simp] theorem x_dispT : eDispT a b st = (a st).bind fun x s1 => (b s1).bind fun y s2 => match x.d.kt? with
  | some k => .ok (.sh (.cell s2.om.length)) { s2 with om := s2.om ++ [Cell.dT [(k, y.d)]] }
  | none => .no := (rfl)
@[simp] theorem x_forC (k : Nat) : sForC k e g p st = (e st).thenS fun x s1 => match x.d with
  | .lst xs => forGo g p xs s1
  | .cell n => forCell g p n 0 k s1
  | _ => .no := (rfl)
theorem x_forCell (n i k : Nat) : forCell g p n i (k + 1) st = match st.om[n]? with
    | some (.lst ys) => (match ys[i]? with
      | none => .nx st
      | some d => (match g d st with
        | none => .no
        | some s1 => (match p s1 with
          | .nx s2 => forCell g p n (i + 1) k s2
          | .ct s2 => forCell g p n (i + 1) k s2
          | .bk s2 => .nx s2
          | .rt v s2 => .rt v s2
          | .ex x s2 => .ex x s2
          | .no => .no)))
    | _ => .no := (rfl)
@[simp] theorem x_tget2 : eTGet2 a b c st = (a st).bind fun x s1 => match x.d with
  | .cell n => (match s1.om[n]? with
    | some (.dT _) => (b s1).bind fun y s2 => (c s2).bind fun z s3 => (match y.d.kt?, s3.om[n]? with
      | some k, some (.dT kvs) => .ok (.sh ((kvGet kvs k).getD z.d)) s3
      | _, _ => .no)
    | _ => .no)
  | _ => .no := (rfl)
@[simp] theorem x_zip2 : iZip2 l st = (l st).bind fun ds s1 => match ds with
  | [.lst xs, .lst ys] => .ok ((xs.zip ys).map fun p => D.tup [p.1, p.2]) s1
  | [.lst xs, .tup ys] => .ok ((xs.zip ys).map fun p => D.tup [p.1, p.2]) s1
  | _ => .no := (rfl)
@[simp] theorem x_raised (Tb : List (Nat × Str)) (ff : Xc → Option D) (tell : D) : eRaised Tb a ff tell st = if tabsOf st.om = Tb then (match a st with
    | .ok _ s1 => .ok (.sh tell) s1
    | .ex x s1 => (match ff x with
      | some d => .ok (.sh d) s1
      | none => .no)
    | .no => .no) else .no := (rfl)
end
theorem v_in {x : D} {ys : List D} (h : x.fine deep = true) (h1 : (D.lst ys).fine deep = true) : oIn x (.lst ys) = some (.sh (.bl (ys.any fun z => z.eq x))) := by simp only [oIn, h, h1, Bool.and_true, if_true]
theorem v_notIn {x : D} {ys : List D} (h : x.fine deep = true) (h1 : (D.lst ys).fine deep = true) : oNotIn x (.lst ys) = some (.sh (.bl (!(ys.any fun z => z.eq x)))) := by simp only [oNotIn, h, h1, Bool.and_true, if_true]
@[simp] theorem kt_tup (ds : List D) : (D.tup ds).kt? = D.kys ds := (rfl)
@[simp] theorem kys_nil : D.kys [] = some [] := (rfl)
@[simp] theorem kys_cons (d : D) (ds : List D) : D.kys (d :: ds) = (D.ky? d).bind fun k => (D.kys ds).map (k :: ·) := (rfl)
@[simp] theorem tabs_nil : tabsOf [] = [] := (rfl)
@[simp] theorem tabs_tab (P : Nat) (q : Str) (r : List Cell) : tabsOf (.tab P q :: r) = (P, q) :: tabsOf r := (rfl)
@[simp] theorem tabs_lst (xs : List D) (r : List Cell) : tabsOf (.lst xs :: r) = tabsOf r := (rfl)
@[simp] theorem tabs_dK (xs : List (Ky × D)) (r : List Cell) : tabsOf (.dK xs :: r) = tabsOf r := (rfl)
@[simp] theorem tabs_dT (xs : List (List Ky × D)) (r : List Cell) : tabsOf (.dT xs :: r) = tabsOf r := (rfl)
theorem tabs_app (a b : List Cell) : tabsOf (a ++ b) = tabsOf a ++ tabsOf b := by
  induction a with
  | nil => rfl
  | cons c a ih => cases c <;> simp [ih]
@[simp] theorem isa_lst_list (om : List Cell) (xs : List D) : (D.lst xs).isA om .list = some true := (rfl)
@[simp] theorem isa_bl_int (om : List Cell) (b : Bool) : (D.bl b).isA om .int = some true := (rfl)
@[simp] theorem isa_lst_bool (om : List Cell) (xs : List D) : (D.lst xs).isA om .bool = some false := (rfl)
@[simp] theorem isa_lst_int (om : List Cell) (xs : List D) : (D.lst xs).isA om .int = some false := (rfl)
@[simp] theorem isa_tup_bool (om : List Cell) (xs : List D) : (D.tup xs).isA om .bool = some false := (rfl)
@[simp] theorem isa_tup_int (om : List Cell) (xs : List D) : (D.tup xs).isA om .int = some false := (rfl)
@[simp] theorem v_eqb (a b : Bool) : oEq (.bl a) (.bl b) = some (.sh (.bl (a == b))) := (rfl)
theorem at_last {α : Type} {xs : List α} (h : xs ≠ []) : atIx xs (-1) = some (xs.getLast h) := by
  have hp : 0 < xs.length := List.length_pos_iff.mpr h
  unfold atIx ixNat
  rw [if_neg (by decide), if_pos (by omega)]
  rw [List.getLast_eq_getElem]
  have : ((-1 : Int) + (xs.length : Int)).toNat = xs.length - 1 := by omega
  simp only [Option.bind_some, this]
  exact List.getElem?_eq_getElem _
theorem ix_ok {α : Type} {xs : List α} {i : Int} (h : 0 ≤ i) (h1 : i < xs.length) : ixNat xs.length i = some i.toNat := by
  unfold ixNat
  rw [if_pos h, if_pos h1]
@[simp] theorem cut_1 {α : Type} (x : α) (xs : List α) : cutD (x :: xs) (some 1) none = xs := by
  unfold cutD sxD
  simp only [if_pos (show (0 : Int) ≤ 1 by decide), List.length_cons]
  have : min (Int.toNat 1) (xs.length + 1) = 1 := by
    have : Int.toNat 1 = 1 := rfl
    omega
  rw [this]
  simp
/-- numbers as data -/
abbrev intsD (a : List Int) : List D := a.map D.int
/-- a list or a tuple -/
def sq (t : Bool) (xs : List D) : D := if t = true then .tup xs else .lst xs
@[simp] theorem sq_l (xs : List D) : sq false xs = .lst xs := rfl
@[simp] theorem sq_t (xs : List D) : sq true xs = .tup xs := rfl
@[simp] theorem sq_len (t : Bool) (xs : List D) : oLen (sq t xs) = some (.sh (.int xs.length)) := by cases t <;> rfl
@[simp] theorem sq_tru (t : Bool) (xs : List D) (om : List Cell) : (sq t xs).tru om = some (!xs.isEmpty) := by cases t <;> rfl
@[simp] theorem sq_ix (t : Bool) (xs : List D) (i : Int) : oIx (sq t xs) (.int i) = (atIx xs i).map .sh := by cases t <;> rfl
@[simp] theorem items_lst (xs : List D) : (D.lst xs).items = some xs := rfl
@[simp] theorem items_tup (xs : List D) : (D.tup xs).items = some xs := rfl
@[simp] theorem items_sq (t : Bool) (xs : List D) : (sq t xs).items = some xs := by cases t <;> rfl
@[simp high] theorem x_iany' (e : EvE) (st : St) : iAny e st = (e st).bind fun x s1 => match x.d.items with
    | some xs => .ok xs s1
    | none => .no := by
  unfold iAny
  cases e st with
  | no => rfl
  | ex x s1 => rfl
  | ok v s1 =>
    simp only [R.bind_ok]
    cases v.d <;> rfl
theorem eqs_ints : ∀ (a b : List Int), D.eqs (intsD a) (intsD b) = decide (a = b)
  | [], [] => by simp
  | [], _ :: _ => by simp [D.eqs]
  | _ :: _, [] => by simp [D.eqs]
  | x :: a, y :: b => by
    have := eqs_ints a b
    simp only [intsD] at this
    simp [this, Bool.and_comm]
    by_cases h : x = y <;> by_cases h2 : a = b <;> simp [h, h2]
theorem fines_ints (a : List Int) (n : Nat) : D.fines n (intsD a) = true := fines_all fun x hx => by
  obtain ⟨i, _, rfl⟩ := List.mem_map.mp hx
  simp
end Mini

set_option linter.all false
set_option maxRecDepth 100000
/-! PyRoutes: the defs of the laws of routes (printed by mkroutes.py, but for the theorems). -/
namespace Mini.LibR
open Mini PySem
def TAB_LIMITS : List (Str × Int) := [("feeds", 4), ("letters", 12), ("word", 24), ("boxes", 6), ("places", 16), ("doctors", 4), ("watched", 8), ("faults", 12), ("worlds", 16), ("tests", 6), ("blocks", 16), ("box terms", 400), ("needs", 400), ("deep", 4), ("window", 12), ("lag", 12), ("limit", 12), ("sides", 6), ("things", 1200), ("kinds", 200), ("beats", 40), ("routes", 8), ("lateness", 60), ("deeds", 60), ("bench things", 400), ("branches", 5000), ("sets", 5000), ("priced worlds", 8)]
def F_check_bound : Fn := runDef 2
  (sIf (tBl (eOp oGt (eVar 1) (eGTab TAB_LIMITS (eVar 0)))) (sRaise1 "TooMany" "what" (eVar 0)) sPass)
def F_check_lates : Fn := runDef 4
  (sSeq (sFor (iAny (eVar 0)) (gNm 2) (sSeq (sDrop (eCall F_check_bound (aCons (eStr "routes") (aCons (eB bLen (aCons (eVar 2) aNil)) aNil)))) (sFor (iAny (eVar 2)) (gNm 3) (sDrop (eCall F_check_bound (aCons (eStr "lateness") (aCons (eVar 3) aNil))))))) (sSeq (sIf (tOr (tNot (tTru (eVar 0))) (tNot (tTru (eOp oIx (eVar 0) (eInt 0))))) (sRaise1 "BadRoutes" "what" (eStr "size")) sPass) (sSeq (sIf (tTru (eB bAny (aCons (eComp (iAny (eVar 0)) (gNm 2) tYes (eOp oNe (eB bLen (aCons (eVar 2) aNil)) (eB bLen (aCons (eOp oIx (eVar 0) (eInt 0)) aNil))) [2]) aNil))) (sRaise1 "BadRoutes" "what" (eStr "size")) sPass) (sFor (iAny (eVar 0)) (gNm 2) (sIf (tTru (eB bAny (aCons (eComp (iAny (eVar 2)) (gNm 3) tYes (eOp oLt (eVar 3) (eVar 1)) [3]) aNil))) (sRaise1 "BadRoutes" "what" (eStr "below")) sPass)))))
def F_common_divisor : Fn := runDef 2
  (sSeq (sPar [0, 1] [(eB bAbs (aCons (eVar 0) aNil)), (eB bAbs (aCons (eVar 1) aNil))]) (sSeq (sWhile fuel (tBl (eOp oNe (eVar 1) (eInt 0))) (sPar [0, 1] [(eVar 1), (eOp oMod (eVar 0) (eVar 1))])) (sRet (eOwn 0))))
def F_common_step : Fn := runDef 3
  (sSeq (sSet 1 (eInt 0)) (sSeq (sFor (iAny (eVar 0)) (gNm 2) (sSet 1 (eCall F_common_divisor (aCons (eVar 1) (aCons (eOp oSub (eVar 2) (eOp oIx (eVar 0) (eInt 0))) aNil))))) (sRet (eOwn 1))))
def F_meets_due : Fn := runDef 2
  (sSeq (sSet 1 (eCall F_common_step (aCons (eVar 0) aNil))) (sSeq (sIf (tBl (eOp oEq (eVar 1) (eInt 0))) (sRet (eOp oEq (eOp oIx (eVar 0) (eInt 0)) (eInt 0))) sPass) (sRet (eOp oEq (eOp oMod (eOp oIx (eVar 0) (eInt 0)) (eVar 1)) (eInt 0)))))
def F_late_shifts : Fn := runDef 4
  (sRet (eComp (iZip2 (aCons (eVar 0) (aCons (eVar 1) aNil))) (gTp (gMore (gNm 2) (gMore (gNm 3) gNone))) tYes (eOp oSub (eVar 2) (eVar 3)) [2, 3]))
def F_law_e_gcd : Fn := runDef 3
  (sSeq (sPar [0, 1] [(eB bAbs (aCons (eVar 0) aNil)), (eB bAbs (aCons (eVar 1) aNil))]) (sSeq (sFor (iRange1 (aCons (eInt 400) aNil)) (gNm 2) (sSeq (sIf (tBl (eOp oEq (eVar 1) (eInt 0))) (sRet (eOwn 0)) sPass) (sPar [0, 1] [(eVar 1), (eOp oMod (eB bInt (aCons (eVar 0) aNil)) (eVar 1))]))) (sRet (eOwn 0))))
def F_law_e_shifts : Fn := runDef 4
  (sRet (eComp (iZip2 (aCons (eVar 0) (aCons (eVar 1) aNil))) (gTp (gMore (gNm 2) (gMore (gNm 3) gNone))) tYes (eOp oSub (eVar 2) (eVar 3)) [2, 3]))
def F_law_e_grain : Fn := runDef 5
  (sSeq (sPar [3, 4] [(eCall F_law_e_shifts (aCons (eVar 0) (aCons (eVar 1) aNil))), (eInt 0)]) (sSeq (sFor (iAny (eVar 3)) (gNm 2) (sSet 4 (eCall F_law_e_gcd (aCons (eVar 4) (aCons (eOp oSub (eVar 2) (eOp oIx (eVar 3) (eOp1 oNeg (eInt 1)))) aNil))))) (sRet (eOwn 4))))
def F_law_e_meets : Fn := runDef 4
  (sSeq (sPar [2, 3] [(eCall F_law_e_grain (aCons (eVar 0) (aCons (eVar 1) aNil))), (eOp oSub (eOp oIx (eVar 0) (eOp1 oNeg (eInt 1))) (eOp oIx (eVar 1) (eOp1 oNeg (eInt 1))))]) (sRet (eIf (tBl (eOp oEq (eVar 2) (eInt 0))) (eOp oEq (eVar 3) (eInt 0)) (eOp oEq (eOp oMod (eB bInt (aCons (eVar 3) aNil)) (eVar 2)) (eInt 0)))))
def F_law_e_reach : Fn := runDef 10
  (sSeq (sPar [3, 4, 5] [eTNew, (eDispT (eVar 1) (eInt 0)), (eLst (aCons (eVar 1) aNil))]) (sSeq (sFor (iAny (eVar 0)) (gTp (gMore (gNm 6) (gMore (gNm 7) gNone))) (sSeq (sSet 8 (eTSetd (eVar 3) (eVar 6))) (sSeq (sAppC (eVar 8) (eVar 7)) (sSeq (sSet 8 (eTSetd (eVar 3) (eVar 7))) (sAppC (eVar 8) (eVar 6)))))) (sSeq (sFor (iRange1 (aCons (eOp oAdd (eB bLen (aCons (eVar 0) aNil)) (eInt 1)) aNil)) (gNm 2) (sSeq (sSet 9 (eLst aNil)) (sSeq (sFor (iAny (eVar 5)) (gNm 6) (sForC fuel (eTGet2 (eVar 3) (eVar 6) (eLst aNil)) (gNm 7) (sIf (tBl (eTIn true (eVar 7) (eVar 4))) (sSeq (sTPut (eVar 4) (eVar 7) (eOp oAdd (eVar 2) (eInt 1))) (sApp 9 (eVar 7))) sPass))) (sSeq (sSet 5 (eVar 9)) (sIf (tNot (tTru (eVar 5))) sBreak sPass))))) (sRet (eOwn 4)))))
def check_lates_0b_0 : EvS := (sDrop (eCall F_check_bound (aCons (eStr "routes") (aCons (eB bLen (aCons (eVar 2) aNil)) aNil))))
def check_lates_0b_1b : EvS := (sDrop (eCall F_check_bound (aCons (eStr "lateness") (aCons (eVar 3) aNil))))
def check_lates_0b_1 : EvS := (sFor (iAny (eVar 2)) (gNm 3) check_lates_0b_1b)
def check_lates_0b : EvS := (sSeq check_lates_0b_0 check_lates_0b_1)
def check_lates_0 : EvS := (sFor (iAny (eVar 0)) (gNm 2) check_lates_0b)
def check_lates_1t : EvS := (sRaise1 "BadRoutes" "what" (eStr "size"))
def check_lates_1 : EvS := (sIf (tOr (tNot (tTru (eVar 0))) (tNot (tTru (eOp oIx (eVar 0) (eInt 0))))) check_lates_1t sPass)
def check_lates_2_c0 : EvE := (eComp (iAny (eVar 0)) (gNm 2) tYes (eOp oNe (eB bLen (aCons (eVar 2) aNil)) (eB bLen (aCons (eOp oIx (eVar 0) (eInt 0)) aNil))) [2])
def check_lates_2t : EvS := (sRaise1 "BadRoutes" "what" (eStr "size"))
def check_lates_2 : EvS := (sIf (tTru (eB bAny (aCons check_lates_2_c0 aNil))) check_lates_2t sPass)
def check_lates_3b_c0 : EvE := (eComp (iAny (eVar 2)) (gNm 3) tYes (eOp oLt (eVar 3) (eVar 1)) [3])
def check_lates_3bt : EvS := (sRaise1 "BadRoutes" "what" (eStr "below"))
def check_lates_3b : EvS := (sIf (tTru (eB bAny (aCons check_lates_3b_c0 aNil))) check_lates_3bt sPass)
def check_lates_3 : EvS := (sFor (iAny (eVar 0)) (gNm 2) check_lates_3b)
theorem check_lates_eq : F_check_lates = runDef 4 (sSeq check_lates_0 (sSeq check_lates_1 (sSeq check_lates_2 check_lates_3))) := rfl
def common_divisor_0 : EvS := (sPar [0, 1] [(eB bAbs (aCons (eVar 0) aNil)), (eB bAbs (aCons (eVar 1) aNil))])
def common_divisor_1b : EvS := (sPar [0, 1] [(eVar 1), (eOp oMod (eVar 0) (eVar 1))])
def common_divisor_1 : EvS := (sWhile fuel (tBl (eOp oNe (eVar 1) (eInt 0))) common_divisor_1b)
def common_divisor_2 : EvS := (sRet (eOwn 0))
theorem common_divisor_eq : F_common_divisor = runDef 2 (sSeq common_divisor_0 (sSeq common_divisor_1 common_divisor_2)) := rfl
def common_step_0 : EvS := (sSet 1 (eInt 0))
def common_step_1b : EvS := (sSet 1 (eCall F_common_divisor (aCons (eVar 1) (aCons (eOp oSub (eVar 2) (eOp oIx (eVar 0) (eInt 0))) aNil))))
def common_step_1 : EvS := (sFor (iAny (eVar 0)) (gNm 2) common_step_1b)
def common_step_2 : EvS := (sRet (eOwn 1))
theorem common_step_eq : F_common_step = runDef 3 (sSeq common_step_0 (sSeq common_step_1 common_step_2)) := rfl
def meets_due_0 : EvS := (sSet 1 (eCall F_common_step (aCons (eVar 0) aNil)))
def meets_due_1t : EvS := (sRet (eOp oEq (eOp oIx (eVar 0) (eInt 0)) (eInt 0)))
def meets_due_1 : EvS := (sIf (tBl (eOp oEq (eVar 1) (eInt 0))) meets_due_1t sPass)
def meets_due_2 : EvS := (sRet (eOp oEq (eOp oMod (eOp oIx (eVar 0) (eInt 0)) (eVar 1)) (eInt 0)))
theorem meets_due_eq : F_meets_due = runDef 2 (sSeq meets_due_0 (sSeq meets_due_1 meets_due_2)) := rfl
def late_shifts_c0 : EvE := (eComp (iZip2 (aCons (eVar 0) (aCons (eVar 1) aNil))) (gTp (gMore (gNm 2) (gMore (gNm 3) gNone))) tYes (eOp oSub (eVar 2) (eVar 3)) [2, 3])
def late_shifts : EvS := (sRet late_shifts_c0)
theorem late_shifts_eq : F_late_shifts = runDef 4 late_shifts := rfl
def law_e_gcd_0 : EvS := (sPar [0, 1] [(eB bAbs (aCons (eVar 0) aNil)), (eB bAbs (aCons (eVar 1) aNil))])
def law_e_gcd_1b_0t : EvS := (sRet (eOwn 0))
def law_e_gcd_1b_0 : EvS := (sIf (tBl (eOp oEq (eVar 1) (eInt 0))) law_e_gcd_1b_0t sPass)
def law_e_gcd_1b_1 : EvS := (sPar [0, 1] [(eVar 1), (eOp oMod (eB bInt (aCons (eVar 0) aNil)) (eVar 1))])
def law_e_gcd_1b : EvS := (sSeq law_e_gcd_1b_0 law_e_gcd_1b_1)
def law_e_gcd_1 : EvS := (sFor (iRange1 (aCons (eInt 400) aNil)) (gNm 2) law_e_gcd_1b)
def law_e_gcd_2 : EvS := (sRet (eOwn 0))
theorem law_e_gcd_eq : F_law_e_gcd = runDef 3 (sSeq law_e_gcd_0 (sSeq law_e_gcd_1 law_e_gcd_2)) := rfl
def law_e_shifts_c0 : EvE := (eComp (iZip2 (aCons (eVar 0) (aCons (eVar 1) aNil))) (gTp (gMore (gNm 2) (gMore (gNm 3) gNone))) tYes (eOp oSub (eVar 2) (eVar 3)) [2, 3])
def law_e_shifts : EvS := (sRet law_e_shifts_c0)
theorem law_e_shifts_eq : F_law_e_shifts = runDef 4 law_e_shifts := rfl
def law_e_grain_0 : EvS := (sPar [3, 4] [(eCall F_law_e_shifts (aCons (eVar 0) (aCons (eVar 1) aNil))), (eInt 0)])
def law_e_grain_1b : EvS := (sSet 4 (eCall F_law_e_gcd (aCons (eVar 4) (aCons (eOp oSub (eVar 2) (eOp oIx (eVar 3) (eOp1 oNeg (eInt 1)))) aNil))))
def law_e_grain_1 : EvS := (sFor (iAny (eVar 3)) (gNm 2) law_e_grain_1b)
def law_e_grain_2 : EvS := (sRet (eOwn 4))
theorem law_e_grain_eq : F_law_e_grain = runDef 5 (sSeq law_e_grain_0 (sSeq law_e_grain_1 law_e_grain_2)) := rfl
def law_e_meets_0 : EvS := (sPar [2, 3] [(eCall F_law_e_grain (aCons (eVar 0) (aCons (eVar 1) aNil))), (eOp oSub (eOp oIx (eVar 0) (eOp1 oNeg (eInt 1))) (eOp oIx (eVar 1) (eOp1 oNeg (eInt 1))))])
def law_e_meets_1 : EvS := (sRet (eIf (tBl (eOp oEq (eVar 2) (eInt 0))) (eOp oEq (eVar 3) (eInt 0)) (eOp oEq (eOp oMod (eB bInt (aCons (eVar 3) aNil)) (eVar 2)) (eInt 0))))
theorem law_e_meets_eq : F_law_e_meets = runDef 4 (sSeq law_e_meets_0 law_e_meets_1) := rfl
def law_e_reach_0 : EvS := (sPar [3, 4, 5] [eTNew, (eDispT (eVar 1) (eInt 0)), (eLst (aCons (eVar 1) aNil))])
def law_e_reach_1b_0 : EvS := (sSet 8 (eTSetd (eVar 3) (eVar 6)))
def law_e_reach_1b_1 : EvS := (sAppC (eVar 8) (eVar 7))
def law_e_reach_1b_2 : EvS := (sSet 8 (eTSetd (eVar 3) (eVar 7)))
def law_e_reach_1b_3 : EvS := (sAppC (eVar 8) (eVar 6))
def law_e_reach_1b : EvS := (sSeq law_e_reach_1b_0 (sSeq law_e_reach_1b_1 (sSeq law_e_reach_1b_2 law_e_reach_1b_3)))
def law_e_reach_1 : EvS := (sFor (iAny (eVar 0)) (gTp (gMore (gNm 6) (gMore (gNm 7) gNone))) law_e_reach_1b)
def law_e_reach_2b_0 : EvS := (sSet 9 (eLst aNil))
def law_e_reach_2b_1bbt_0 : EvS := (sTPut (eVar 4) (eVar 7) (eOp oAdd (eVar 2) (eInt 1)))
def law_e_reach_2b_1bbt_1 : EvS := (sApp 9 (eVar 7))
def law_e_reach_2b_1bb : EvS := (sIf (tBl (eTIn true (eVar 7) (eVar 4))) (sSeq law_e_reach_2b_1bbt_0 law_e_reach_2b_1bbt_1) sPass)
def law_e_reach_2b_1b : EvS := (sForC fuel (eTGet2 (eVar 3) (eVar 6) (eLst aNil)) (gNm 7) law_e_reach_2b_1bb)
def law_e_reach_2b_1 : EvS := (sFor (iAny (eVar 5)) (gNm 6) law_e_reach_2b_1b)
def law_e_reach_2b_2 : EvS := (sSet 5 (eVar 9))
def law_e_reach_2b_3 : EvS := (sIf (tNot (tTru (eVar 5))) sBreak sPass)
def law_e_reach_2b : EvS := (sSeq law_e_reach_2b_0 (sSeq law_e_reach_2b_1 (sSeq law_e_reach_2b_2 law_e_reach_2b_3)))
def law_e_reach_2 : EvS := (sFor (iRange1 (aCons (eOp oAdd (eB bLen (aCons (eVar 0) aNil)) (eInt 1)) aNil)) (gNm 2) law_e_reach_2b)
def law_e_reach_3 : EvS := (sRet (eOwn 4))
theorem law_e_reach_eq : F_law_e_reach = runDef 10 (sSeq law_e_reach_0 (sSeq law_e_reach_1 (sSeq law_e_reach_2 law_e_reach_3))) := rfl
/-! ### loops and comprehensions -/
def Cm (d : Option Vl) : Prop := d = none ∨ ∃ x, d = some (.sh x)
theorem Cm.none : Cm none := .inl rfl
theorem Cm.sh (x : D) : Cm (some (.sh x)) := .inr ⟨x, rfl⟩
theorem for_ex {α : Type} {g : EvG} {b : EvS} (f : α → D) (I : St → Prop) (om : List Cell) (p : α → Option Xc) : ∀ (xs : List α) (st : St), I st →
    (∀ x ∈ xs, ∀ st, I st → ∃ s1, g (f x) st = some s1 ∧ (p x = none → ∃ s2, b s1 = .nx s2 ∧ I s2) ∧ ∀ e, p x = some e → ∃ s2, b s1 = .ex e s2 ∧ s2.om = om) →
    (xs.findSome? p = none ∧ ∃ s', forGo g b (xs.map f) st = .nx s' ∧ I s') ∨ ∃ e, xs.findSome? p = some e ∧ ∃ s', forGo g b (xs.map f) st = .ex e s' ∧ s'.om = om
  | [], st, hI, _ => .inl ⟨rfl, st, rfl, hI⟩
  | x :: xs, st, hI, h => by
    obtain ⟨s1, e1, h1, h2⟩ := h x (by simp) st hI
    rw [List.map_cons, x_forCons, List.findSome?_cons]
    cases hp : p x with
    | none =>
      obtain ⟨s2, e2, hI2⟩ := h1 hp
      simp only [e1, e2]
      exact for_ex f I om p xs s2 hI2 fun y hy => h y (by simp [hy])
    | some e =>
      obtain ⟨s2, e2, hJ⟩ := h2 e hp
      simp only [e1, e2]
      exact .inr ⟨e, rfl, s2, rfl, hJ⟩
theorem comp_eval {it : EvI} {g : EvG} {e : EvE} {vs : List Nat} {st : St} {α : Type} (f v : α → D) (ys : List α) (hit : it st = .ok (ys.map f) st) (hc : calmSlots st.env vs = true) (hl : ys.length ≤ 100000)
    (h : ∀ y ∈ ys, ∃ s1 z s3, g (f y) ⟨wipeEnv st.env vs, st.om⟩ = some s1 ∧ e s1 = .ok z s3 ∧ z.d = v y ∧ (⟨wipeEnv s1.env vs, s1.om⟩ : St) = ⟨wipeEnv st.env vs, st.om⟩ ∧ (⟨wipeEnv s3.env vs, s3.om⟩ : St) = ⟨wipeEnv st.env vs, st.om⟩)
    (hr : restore st.env (wipeEnv st.env vs) vs = st.env) : eComp it g tYes e vs st = .ok (.ow (ys.map v)) st := by
  rw [x_comp, hit]
  simp only [r_ok, hc, if_true]
  have : ∀ (zs : List α) (acc : List D), acc.length + zs.length ≤ 100000 → (∀ y ∈ zs, y ∈ ys) → compGo g tYes e vs (zs.map f) acc ⟨wipeEnv st.env vs, st.om⟩ = .ok (acc ++ zs.map v) ⟨wipeEnv st.env vs, st.om⟩ := by
    intro zs
    induction zs with
    | nil => intro acc _ _; simp
    | cons z zs ih =>
      intro acc ha hm
      obtain ⟨s1, y, s3, e1, e2, e3, e4, e5⟩ := h z (hm z (by simp))
      rw [List.length_cons] at ha
      rw [List.map_cons, x_compCons, e1]
      simp only [x_yes, r_ok, if_true, e2, show acc.length < many by simp only [many_n]; omega, e3, e5]
      rw [ih _ (by simp; omega) fun y hy => hm y (by simp [hy])]
      simp
  rw [show (⟨wipeEnv st.env vs, st.om⟩ : St) = { st with env := wipeEnv st.env vs } from rfl] at this
  rw [this ys [] (by simpa using hl) fun y hy => hy]
  simp only [hr, List.nil_append]
theorem comp_filt {it : EvI} {g : EvG} {t : EvT} {e : EvE} {vs : List Nat} {st : St} {α : Type} (f v : α → D) (p : α → Bool) (ys : List α) (hit : it st = .ok (ys.map f) st) (hc : calmSlots st.env vs = true) (hl : ys.length ≤ 100000)
    (h : ∀ y ∈ ys, ∃ s1 s2, g (f y) ⟨wipeEnv st.env vs, st.om⟩ = some s1 ∧ t s1 = .ok (p y) s2 ∧ (⟨wipeEnv s2.env vs, s2.om⟩ : St) = ⟨wipeEnv st.env vs, st.om⟩ ∧ (p y = true → ∃ z s3, e s2 = .ok z s3 ∧ z.d = v y ∧ (⟨wipeEnv s3.env vs, s3.om⟩ : St) = ⟨wipeEnv st.env vs, st.om⟩))
    (hr : restore st.env (wipeEnv st.env vs) vs = st.env) : eComp it g t e vs st = .ok (.ow ((ys.filter p).map v)) st := by
  rw [x_comp, hit]
  simp only [r_ok, hc, if_true]
  have : ∀ (zs : List α) (acc : List D), acc.length + zs.length ≤ 100000 → (∀ y ∈ zs, y ∈ ys) → compGo g t e vs (zs.map f) acc ⟨wipeEnv st.env vs, st.om⟩ = .ok (acc ++ (zs.filter p).map v) ⟨wipeEnv st.env vs, st.om⟩ := by
    intro zs
    induction zs with
    | nil => intro acc _ _; simp
    | cons z zs ih =>
      intro acc ha hm
      obtain ⟨s1, s2, e1, e2, e3, e4⟩ := h z (hm z (by simp))
      rw [List.length_cons] at ha
      rw [List.map_cons, x_compCons, e1]
      cases hp : p z with
      | false =>
        simp only [e2, r_ok, hp, Bool.false_eq_true, if_false, e3]
        rw [ih _ (by omega) fun y hy => hm y (by simp [hy])]
        simp [hp]
      | true =>
        obtain ⟨y, s3, e5, e6, e7⟩ := e4 hp
        simp only [e2, r_ok, hp, if_true, e5, show acc.length < many by simp only [many_n]; omega, e6, e7]
        rw [ih _ (by simp; omega) fun y hy => hm y (by simp [hy])]
        simp [hp]
  rw [show (⟨wipeEnv st.env vs, st.om⟩ : St) = { st with env := wipeEnv st.env vs } from rfl] at this
  rw [this ys [] (by simpa using hl) fun y hy => hy]
  simp only [hr, List.nil_append]
/-- a comprehension whose value draws: the store changes within I, each value meets V -/
theorem comp_draw {it : EvI} {g : EvG} {e : EvE} {vs : List Nat} {env : List (Option Vl)} {om : List Cell} {α : Type} (f : α → D) (V : α → D → Prop) (I : List Cell → Prop) (ys : List α) (hit : it ⟨env, om⟩ = .ok (ys.map f) ⟨env, om⟩) (hI : I om) (hc : calmSlots env vs = true) (hl : ys.length ≤ 100000)
    (h : ∀ y ∈ ys, ∀ om, I om → ∃ s1 z s3, g (f y) ⟨wipeEnv env vs, om⟩ = some s1 ∧ e s1 = .ok z s3 ∧ V y z.d ∧ wipeEnv s3.env vs = wipeEnv env vs ∧ I s3.om)
    (hr : restore env (wipeEnv env vs) vs = env) : ∃ (ds : List D) (om' : List Cell), eComp it g tYes e vs ⟨env, om⟩ = .ok (.ow ds) ⟨env, om'⟩ ∧ I om' ∧ ds.length = ys.length ∧ ∀ (i : Nat) (y : α) (d : D), ys[i]? = some y → ds[i]? = some d → V y d := by
  rw [x_comp, hit]
  simp only [r_ok, hc, if_true]
  have : ∀ (zs : List α) (acc : List D) (om : List Cell), I om → acc.length + zs.length ≤ 100000 → (∀ y ∈ zs, y ∈ ys) → ∃ (ds : List D) (om' : List Cell), compGo g tYes e vs (zs.map f) acc ⟨wipeEnv env vs, om⟩ = .ok (acc ++ ds) ⟨wipeEnv env vs, om'⟩ ∧ I om' ∧ ds.length = zs.length ∧ ∀ (i : Nat) (y : α) (d : D), zs[i]? = some y → ds[i]? = some d → V y d := by
    intro zs
    induction zs with
    | nil => intro acc om hI _ _; exact ⟨[], om, by simp, hI, rfl, fun i y d h => by simp at h⟩
    | cons z zs ih =>
      intro acc om hI ha hm
      obtain ⟨s1, y, s3, e1, e2, e3, e4, e5⟩ := h z (hm z (by simp)) om hI
      rw [List.length_cons] at ha
      obtain ⟨ds, om', c1, c2, c3, c4⟩ := ih (acc ++ [y.d]) s3.om e5 (by simp; omega) fun y hy => hm y (by simp [hy])
      refine ⟨y.d :: ds, om', ?_, c2, by simp [c3], fun i => ?_⟩
      · rw [List.map_cons, x_compCons, e1]
        simp only [x_yes, r_ok, if_true, e2, show acc.length < many by simp only [many_n]; omega]
        rw [e4, c1]
        simp
      · cases i with
        | zero => intro y' d h1 h2; simp at h1 h2; subst h1 h2; exact e3
        | succ i => intro y' d h1 h2; exact c4 i y' d (by simpa using h1) (by simpa using h2)
  obtain ⟨ds, om', c1, c2, c3, c4⟩ := this ys [] om hI (by simpa using hl) fun y hy => hy
  refine ⟨ds, om', ?_, c2, c3, c4⟩
  rw [c1]
  simp only [hr, List.nil_append]
/-! ### bounds -/
theorem bound_ok {z : Str} {m : Int} (h : TAB_LIMITS.lookup z = some m) (n : Int) (om : List Cell) : F_check_bound [.str z, .int n] om = if m < n then .ex ⟨"TooMany", [("what", .str z)]⟩ om else .ok (.sh .non) om := by
  by_cases c : m < n <;> simp [F_check_bound, h, c]
theorem lim_routes : TAB_LIMITS.lookup ("routes" : Str) = some 8 := by decide +kernel
theorem lim_late : TAB_LIMITS.lookup ("lateness" : Str) = some 60 := by decide +kernel
abbrev tooMany (z : Str) : Xc := ⟨"TooMany", [("what", .str z)]⟩
abbrev bad (z : Str) : Xc := ⟨"BadRoutes", [("what", .str z)]⟩
/-- what is raised for rows of latenesses -/
def tmRow (r : List Int) : Option Xc := if 8 < r.length then some (tooMany "routes") else r.findSome? fun x => if 60 < x then some (tooMany "lateness") else none
def lowRow (least : Int) (r : List Int) : Option Xc := if r.any (fun x => decide (x < least)) = true then some (bad "below") else none
def latesErr (rows : List (List Int)) (least : Int) : Option Xc :=
  match rows.findSome? tmRow with
  | some e => some e
  | none => match rows with
    | [] => some (bad "size")
    | r :: _ => if r = [] then some (bad "size") else if rows.any (fun q => decide (q.length ≠ r.length)) = true then some (bad "size") else rows.findSome? (lowRow least)
def rowD (r : Bool × List Int) : D := sq r.1 (intsD r.2)
section
variable (R : List D) (least : Int) (om : List Cell)
abbrev clE (d2 d3 : Option Vl) : List (Option Vl) := [some (.sh (.lst R)), some (.sh (.int least)), d2, d3]
theorem cl_in (r : List Int) (d2 d3 : Option Vl) (c3 : Cm d3) : (r.findSome? (fun x => if 60 < x then some (tooMany "lateness") else none) = none ∧ ∃ d3', Cm d3' ∧ forGo (gNm 3) check_lates_0b_1b (intsD r) ⟨clE R least d2 d3, om⟩ = .nx ⟨clE R least d2 d3', om⟩) ∨
    ∃ e, r.findSome? (fun x => if 60 < x then some (tooMany "lateness") else none) = some e ∧ ∃ s', forGo (gNm 3) check_lates_0b_1b (intsD r) ⟨clE R least d2 d3, om⟩ = .ex e s' ∧ s'.om = om := by
  rcases for_ex (g := gNm 3) (b := check_lates_0b_1b) D.int (fun st => ∃ d3', Cm d3' ∧ st = ⟨clE R least d2 d3', om⟩) om (fun x => if 60 < x then some (tooMany "lateness") else none) r ⟨clE R least d2 d3, om⟩ ⟨d3, c3, rfl⟩ (by
    rintro x hx st ⟨d3', _, rfl⟩
    have b := bound_ok lim_late x om
    refine ⟨⟨clE R least d2 (some (.sh (.int x))), om⟩, rfl, fun h => ⟨_, ?_, _, .sh (.int x), rfl⟩, fun e h => ⟨⟨clE R least d2 (some (.sh (.int x))), om⟩, ?_, rfl⟩⟩
    · by_cases c : 60 < x
      · simp [c] at h
      · simp [check_lates_0b_1b, b, c]
    · by_cases c : 60 < x
      · have : tooMany "lateness" = e := by simpa [c] using h
        subst this
        simp [check_lates_0b_1b, b, c]
      · simp [c] at h) with ⟨a, s', e, d3', c3', rfl⟩ | ⟨e, a, s', e1, e2⟩
  · exact .inl ⟨a, d3', c3', e⟩
  · exact .inr ⟨e, a, s', e1, e2⟩
theorem cl_out (rows : List (Bool × List Int)) (d2 d3 : Option Vl) (c2 : Cm d2) (c3 : Cm d3) : ((rows.map (·.2)).findSome? tmRow = none ∧ ∃ d2' d3', Cm d2' ∧ Cm d3' ∧ forGo (gNm 2) check_lates_0b (rows.map rowD) ⟨clE R least d2 d3, om⟩ = .nx ⟨clE R least d2' d3', om⟩) ∨
    ∃ e, (rows.map (·.2)).findSome? tmRow = some e ∧ ∃ s', forGo (gNm 2) check_lates_0b (rows.map rowD) ⟨clE R least d2 d3, om⟩ = .ex e s' ∧ s'.om = om := by
  rw [List.findSome?_map]
  rcases for_ex (g := gNm 2) (b := check_lates_0b) rowD (fun st => ∃ d2' d3', Cm d2' ∧ Cm d3' ∧ st = ⟨clE R least d2' d3', om⟩) om (tmRow ∘ (·.2)) rows ⟨clE R least d2 d3, om⟩ ⟨d2, d3, c2, c3, rfl⟩ (by
    rintro ⟨t, r⟩ hx st ⟨d2', d3', _, c3', rfl⟩
    have b := bound_ok lim_routes r.length om
    refine ⟨⟨clE R least (some (.sh (sq t (intsD r)))) d3', om⟩, rfl, fun h => ?_, fun e h => ?_⟩
    · have h : tmRow r = none := h
      unfold tmRow at h
      by_cases c : 8 < r.length
      · simp [c] at h
      · rw [if_neg c] at h
        rcases cl_in R least om r (some (.sh (sq t (intsD r)))) d3' c3' with ⟨_, d4, c4, e⟩ | ⟨e, a, _⟩
        · exact ⟨⟨clE R least (some (.sh (sq t (intsD r)))) d4, om⟩, by simp [check_lates_0b, check_lates_0b_0, check_lates_0b_1, b, show ¬ (8 : Int) < r.length by omega, e], _, _, .sh _, c4, rfl⟩
        · rw [h] at a; cases a
    · have h : tmRow r = some e := h
      unfold tmRow at h
      by_cases c : 8 < r.length
      · rw [if_pos c] at h
        cases h
        exact ⟨⟨clE R least (some (.sh (sq t (intsD r)))) d3', om⟩, by simp [check_lates_0b, check_lates_0b_0, check_lates_0b_1, b, show (8 : Int) < r.length by omega], rfl⟩
      · rw [if_neg c] at h
        rcases cl_in R least om r (some (.sh (sq t (intsD r)))) d3' c3' with ⟨a, _⟩ | ⟨e', a, s', e1, e2⟩
        · rw [h] at a; cases a
        · rw [h] at a
          cases a
          exact ⟨s', by simp [check_lates_0b, check_lates_0b_0, check_lates_0b_1, b, show ¬ (8 : Int) < r.length by omega, e1], e2⟩) with ⟨a, s', e, d2', d3', c2', c3', rfl⟩ | ⟨e, a, s', e1, e2⟩
  · exact .inl ⟨a, d2', d3', c2', c3', e⟩
  · exact .inr ⟨e, a, s', e1, e2⟩
theorem cl_low (rows : List (Bool × List Int)) (hl2 : ∀ r ∈ rows, r.2.length ≤ 1000) (d2 d3 : Option Vl) (c2 : Cm d2) (c3 : Cm d3) : ((rows.map (·.2)).findSome? (lowRow least) = none ∧ ∃ d2' d3', Cm d2' ∧ Cm d3' ∧ forGo (gNm 2) check_lates_3b (rows.map rowD) ⟨clE R least d2 d3, om⟩ = .nx ⟨clE R least d2' d3', om⟩) ∨
    ∃ e, (rows.map (·.2)).findSome? (lowRow least) = some e ∧ ∃ s', forGo (gNm 2) check_lates_3b (rows.map rowD) ⟨clE R least d2 d3, om⟩ = .ex e s' ∧ s'.om = om := by
  rw [List.findSome?_map]
  rcases for_ex (g := gNm 2) (b := check_lates_3b) rowD (fun st => ∃ d2' d3', Cm d2' ∧ Cm d3' ∧ st = ⟨clE R least d2' d3', om⟩) om (lowRow least ∘ (·.2)) rows ⟨clE R least d2 d3, om⟩ ⟨d2, d3, c2, c3, rfl⟩ (by
    rintro ⟨t, r⟩ hx st ⟨d2', d3', _, c3', rfl⟩
    have hl := hl2 _ hx
    have cm := comp_eval (it := iAny (eVar 2)) (g := gNm 3) (e := eOp oLt (eVar 3) (eVar 1)) (vs := [3]) (st := ⟨clE R least (some (.sh (sq t (intsD r)))) d3', om⟩) D.int (fun x => .bl (decide (x < least))) r (by simp) (by rcases c3' with rfl | ⟨x, rfl⟩ <;> simp) (by simp at hl; omega)
      (fun x _ => ⟨⟨clE R least (some (.sh (sq t (intsD r)))) (some (.sh (.int x))), om⟩, .sh (.bl (decide (x < least))), ⟨clE R least (some (.sh (sq t (intsD r)))) (some (.sh (.int x))), om⟩, rfl, by simp, rfl, rfl, rfl⟩) (by simp)
    have cc : r.map (fun x : Int => D.bl (decide (x < least))) = (r.map fun x => decide (x < least)).map D.bl := by rw [List.map_map]; rfl
    rw [cc] at cm
    have ce := bi_any (r.map fun x => decide (x < least))
    rw [List.any_map] at ce
    have cm : check_lates_3b_c0 ⟨clE R least (some (.sh (sq t (intsD r)))) d3', om⟩ = _ := cm
    have ce : bAny [D.lst (List.map D.bl (List.map (fun x => decide (x < least)) r))] = some (.sh (.bl (r.any fun x => decide (x < least)))) := ce
    have key : ∀ s1 : St, s1 = ⟨clE R least (some (.sh (sq t (intsD r)))) d3', om⟩ → (tTru (eB bAny (aCons check_lates_3b_c0 aNil))) s1 = .ok (r.any fun x => decide (x < least)) s1 := by
      rintro s1 rfl
      rw [x_tru, x_b, x_cons, cm]
      simp only [r_ok, x_nil, d_ow, ce, d_sh, tr_bl]
    refine ⟨⟨clE R least (some (.sh (sq t (intsD r)))) d3', om⟩, rfl, fun h => ⟨⟨clE R least (some (.sh (sq t (intsD r)))) d3', om⟩, ?_, _, _, .sh _, c3', rfl⟩, fun e h => ⟨⟨clE R least (some (.sh (sq t (intsD r)))) d3', om⟩, ?_, rfl⟩⟩
    · have h : lowRow least r = none := h
      unfold lowRow at h
      by_cases c : (r.any fun x => decide (x < least)) = true
      · rw [if_pos c] at h; cases h
      · rw [check_lates_3b, x_sif, key _ rfl]
        simp [c]
    · have h : lowRow least r = some e := h
      unfold lowRow at h
      by_cases c : (r.any fun x => decide (x < least)) = true
      · rw [if_pos c] at h
        cases h
        rw [check_lates_3b, x_sif, key _ rfl]
        simp only [c, t_ok, if_true, check_lates_3bt, x_raise1, x_str, d_sh]
      · rw [if_neg c] at h; cases h) with ⟨a, s', e, d2', d3', c2', c3', rfl⟩ | ⟨e, a, s', e1, e2⟩
  · exact .inl ⟨a, d2', d3', c2', c3', e⟩
  · exact .inr ⟨e, a, s', e1, e2⟩
end
theorem lates_ok (rows : List (Bool × List Int)) (hl : rows.length ≤ 1000) (hl2 : ∀ r ∈ rows, r.2.length ≤ 1000) (least : Int) (om : List Cell) : F_check_lates [.lst (rows.map rowD), .int least] om = match latesErr (rows.map (·.2)) least with
    | none => .ok (.sh .non) om
    | some e => .ex e om := by
  obtain ⟨R, hR⟩ : ∃ R, R = rows.map rowD := ⟨_, rfl⟩
  have e0 : F_check_lates [.lst R, .int least] om = ((sSeq check_lates_0 (sSeq check_lates_1 (sSeq check_lates_2 check_lates_3))) ⟨clE R least none none, om⟩).toF := rfl
  rw [← hR, e0, x_seq]
  unfold latesErr
  have s0 : ∀ d2 d3, check_lates_0 ⟨clE R least d2 d3, om⟩ = forGo (gNm 2) check_lates_0b R ⟨clE R least d2 d3, om⟩ := fun d2 d3 => by simp [check_lates_0]
  rw [s0]
  rcases cl_out R least om rows none none .none .none with ⟨a, d2, d3, c2, c3, e⟩ | ⟨x, a, s', e1, e2⟩
  · rw [← hR] at e
    rw [a, e, o_nx]
    cases rows with
    | nil =>
      subst hR
      simp [check_lates_1, check_lates_1t]
    | cons r rows =>
      obtain ⟨t, r⟩ := r
      have h0 : atIx R 0 = some (sq t (intsD r)) := by rw [hR]; simp [rowD]
      have hne : R.isEmpty = false := by rw [hR]; rfl
      simp only [List.map_cons]
      by_cases hr : r = []
      · subst hr
        simp [check_lates_1, check_lates_1t, hne, h0]
      · have hn : (intsD r).isEmpty = false := by cases r with | nil => exact absurd rfl hr | cons x r => rfl
        rw [if_neg hr]
        have s1 : check_lates_1 ⟨clE R least d2 d3, om⟩ = .nx ⟨clE R least d2 d3, om⟩ := by simp [check_lates_1, hne, h0, hr]
        rw [x_seq, s1, o_nx, x_seq]
        have ca : calmSlots (clE R least d2 d3) [2] = true := by rcases c2 with rfl | ⟨x, rfl⟩ <;> simp
        have cb := comp_eval (it := iAny (eVar 0)) (g := gNm 2) (e := eOp oNe (eB bLen (aCons (eVar 2) aNil)) (eB bLen (aCons (eOp oIx (eVar 0) (eInt 0)) aNil))) (vs := [2]) (st := ⟨clE R least d2 d3, om⟩) rowD (fun q => .bl (decide (q.2.length ≠ r.length))) ((t, r) :: rows) (by rw [← hR]; simp) ca (by omega) (by
          rintro ⟨t', q⟩ _
          refine ⟨_, .sh (.bl (decide (q.length ≠ r.length))), ⟨clE R least (some (.sh (sq t' (intsD q)))) d3, om⟩, rfl, ?_, rfl, rfl, rfl⟩
          have : (!((q.length : Int) == (r.length : Int))) = decide (q.length ≠ r.length) := by
            by_cases c : q.length = r.length
            · simp [c]
            · simp [c]; omega
          simp [rowD, h0, this]) (by simp)
        have cc : ((t, r) :: rows).map (fun q : Bool × List Int => D.bl (decide (q.2.length ≠ r.length))) = (((t, r) :: rows).map fun q => decide (q.2.length ≠ r.length)).map D.bl := by rw [List.map_map]; rfl
        rw [cc] at cb
        have cd : (((t, r) :: rows).map fun q => decide (q.2.length ≠ r.length)).any id = (r :: rows.map (·.2)).any fun q => decide (q.length ≠ r.length) := by
          rw [List.any_map, show r :: rows.map (·.2) = ((t, r) :: rows).map (·.2) from rfl, List.any_map]
          rfl
        have ce := bi_any (((t, r) :: rows).map fun q => decide (q.2.length ≠ r.length))
        rw [cd] at ce
        have cb : check_lates_2_c0 ⟨clE R least d2 d3, om⟩ = _ := cb
        have key : (tTru (eB bAny (aCons check_lates_2_c0 aNil))) ⟨clE R least d2 d3, om⟩ = .ok ((r :: rows.map (·.2)).any fun q => decide (q.length ≠ r.length)) ⟨clE R least d2 d3, om⟩ := by
          rw [x_tru, x_b, x_cons, cb]
          simp only [r_ok, x_nil, d_ow, ce, d_sh, tr_bl]
        by_cases c : ((r :: rows.map (·.2)).any fun q => decide (q.length ≠ r.length)) = true
        · rw [if_pos c, check_lates_2, x_sif, key, c]
          simp [check_lates_2t]
        · rw [if_neg c, check_lates_2, x_sif, key, t_ok, if_neg c, x_pass, o_nx]
          have s3 : ∀ d2 d3, check_lates_3 ⟨clE R least d2 d3, om⟩ = forGo (gNm 2) check_lates_3b R ⟨clE R least d2 d3, om⟩ := fun d2 d3 => by simp [check_lates_3]
          rw [s3]
          rcases cl_low R least om ((t, r) :: rows) hl2 d2 d3 c2 c3 with ⟨a, d2', d3', _, _, e⟩ | ⟨x, a, s', e1, e2⟩
          · rw [← hR] at e
            have a : (r :: rows.map (·.2)).findSome? (lowRow least) = none := a
            rw [e, a]
            rfl
          · rw [← hR] at e1
            have a : (r :: rows.map (·.2)).findSome? (lowRow least) = some x := a
            rw [e1, a]
            simp [e2]
  · rw [← hR] at e1
    rw [a, e1]
    simp [e2]
/-! ### numbers -/
theorem fuel_big {n : Nat} (h : n < 2 ^ 900) : n < fuel := Nat.lt_trans h (by decide +kernel)
theorem cd_go (om : List Cell) : ∀ (b a n : Nat), b < n → whileGo (tBl (eOp oNe (eVar 1) (eInt 0))) (sPar [0, 1] [(eVar 1), (eOp oMod (eVar 0) (eVar 1))]) n ⟨[some (.sh (.int a)), some (.sh (.int b))], om⟩ = .nx ⟨[some (.sh (.int (Nat.gcd a b : Nat))), some (.sh (.int 0))], om⟩ := by
  intro b
  induction b using Nat.strongRecOn with
  | _ b ih =>
    intro a n hn
    obtain ⟨n, rfl⟩ : ∃ n', n = n' + 1 := ⟨n - 1, by omega⟩
    rw [x_whileS]
    by_cases h : b = 0
    · subst h; simp
    · have hb : 0 < b := by omega
      have hm := Nat.mod_lt a hb
      have e := ih (a % b) hm b n (by omega)
      rw [show Nat.gcd a b = Nat.gcd b (a % b) by rw [Nat.gcd_comm b, ← Nat.gcd_rec, Nat.gcd_comm], ← e]
      simp [h, hb]
theorem cd_ok (a b : Int) (om : List Cell) (hb : b.natAbs < 2 ^ 900) : F_common_divisor [.int a, .int b] om = .ok (.sh (.int (Int.gcd a b : Nat))) om := by
  have e := cd_go om b.natAbs a.natAbs fuel (fuel_big hb)
  simp [F_common_divisor, e]
  rfl
/-- the greatest common divisor of all differences from x0 -/
def gsp (x0 : Int) (xs : List Int) (g : Nat) : Nat := xs.foldl (fun g x => Nat.gcd g (x - x0).natAbs) g
theorem dvd_gsp (x0 : Int) (d : Nat) : ∀ (xs : List Int) (g : Nat), d ∣ gsp x0 xs g ↔ d ∣ g ∧ ∀ x ∈ xs, (d : Int) ∣ x - x0
  | [], g => by simp [gsp]
  | y :: xs, g => by
    show d ∣ gsp x0 xs (Nat.gcd g (y - x0).natAbs) ↔ _
    rw [dvd_gsp x0 d xs, Nat.dvd_gcd_iff, ← Int.ofNat_dvd_left]
    simp only [List.mem_cons, forall_eq_or_imp]
    exact ⟨fun ⟨⟨a, b⟩, c⟩ => ⟨a, b, c⟩, fun ⟨a, b, c⟩ => ⟨⟨a, b⟩, c⟩⟩
theorem cs_go (L : D) (d0 : Option Vl) (x0 : Int) (hL : oIx L (.int 0) = some (.sh (.int x0))) (h0 : d0 = some (.sh L)) (om : List Cell) : ∀ (xs : List Int) (g : Nat) (d2 : Option Vl), (∀ x ∈ xs, (x - x0).natAbs < 2 ^ 900) →
    ∃ d2', forGo (gNm 2) common_step_1b (intsD xs) ⟨[d0, some (.sh (.int g)), d2], om⟩ = .nx ⟨[d0, some (.sh (.int (gsp x0 xs g : Nat))), d2'], om⟩ := by
  subst h0
  intro xs
  induction xs with
  | nil => intro g d2 _; exact ⟨d2, rfl⟩
  | cons x xs ih =>
    intro g d2 hs
    have hx := cd_ok g (x - x0) om (hs x (by simp))
    obtain ⟨d2', e⟩ := ih (Nat.gcd g (x - x0).natAbs) (some (.sh (.int x))) fun y hy => hs y (by simp [hy])
    refine ⟨d2', ?_⟩
    rw [show gsp x0 (x :: xs) g = gsp x0 xs (Nat.gcd g (x - x0).natAbs) from rfl, ← e]
    have : Int.gcd (g : Int) (x - x0) = Nat.gcd g (x - x0).natAbs := rfl
    simp only [intsD, List.map_cons, x_forCons]
    simp [common_step_1b, hL, hx, this]
/-- latenesses that are let -/
def Small (xs : List Int) : Prop := ∀ x ∈ xs, x.natAbs ≤ 1000
theorem Small.sub {xs : List Int} (h : Small xs) {x y : Int} (hx : x ∈ xs) (hy : y ∈ xs) : (x - y).natAbs < 2 ^ 900 := by
  have h1 := h x hx
  have h2 := h y hy
  exact Nat.lt_of_lt_of_le (show (x - y).natAbs < 2 ^ 20 by omega) (Nat.pow_le_pow_right (by decide) (by decide))
theorem cs_ok (x0 : Int) (xs : List Int) (h : Small (x0 :: xs)) (om : List Cell) : F_common_step [.lst (intsD (x0 :: xs))] om = .ok (.sh (.int (gsp x0 (x0 :: xs) 0 : Nat))) om := by
  obtain ⟨R, hR⟩ : ∃ R, R = intsD (x0 :: xs) := ⟨_, rfl⟩
  obtain ⟨d2', e⟩ := cs_go (.lst R) (some (.sh (.lst R))) x0 (by rw [hR]; simp) rfl om (x0 :: xs) 0 none fun x hx => h.sub hx (by simp)
  rw [← hR] at e ⊢
  have e1 : common_step_1 ⟨[some (.sh (.lst R)), some (.sh (.int 0)), none], om⟩ = .nx ⟨[some (.sh (.lst R)), some (.sh (.int (gsp x0 (x0 :: xs) 0 : Nat))), d2'], om⟩ := by
    rw [← e]
    simp [common_step_1]
  rw [common_step_eq]
  simp [common_step_0, common_step_2, e1]
theorem gsp_mod (x0 : Int) (xs : List Int) (x : Int) (hx : x ∈ xs) : ((gsp x0 xs 0 : Nat) : Int) ∣ x - x0 := ((dvd_gsp x0 _ xs 0).mp (Nat.dvd_refl _)).2 x hx
/-- whether all are multiples of the gcd of the differences -/
def Meets (xs : List Int) : Prop := ∀ d : Nat, (∀ x ∈ xs, ∀ y ∈ xs, (d : Int) ∣ x - y) → ∀ x ∈ xs, (d : Int) ∣ x
theorem dvd_diff {d x y z : Int} (h1 : d ∣ x - z) (h2 : d ∣ y - z) : d ∣ x - y := by
  have := Int.dvd_sub h1 h2
  rwa [show x - z - (y - z) = x - y by omega] at this
theorem meets_iff {x0 : Int} {xs : List Int} (hm : x0 ∈ xs) : ((gsp x0 xs 0 : Nat) : Int) ∣ x0 ↔ Meets xs := by
  have hall := fun x hx => gsp_mod x0 xs x hx
  constructor
  · intro h d hd x hx
    have h1 : d ∣ gsp x0 xs 0 := (dvd_gsp x0 d xs 0).mpr ⟨Nat.dvd_zero d, fun y hy => hd y hy x0 hm⟩
    have h2 : (d : Int) ∣ x0 := Int.dvd_trans (Int.natCast_dvd_natCast.mpr h1) h
    have h3 := Int.dvd_add (hd x hx x0 hm) h2
    rwa [show x - x0 + x0 = x by omega] at h3
  · intro h
    exact h _ (fun x hx y hy => dvd_diff (hall x hx) (hall y hy)) x0 hm
theorem gsp_same {x0 x1 : Int} {xs : List Int} (h0 : x0 ∈ xs) (h1 : x1 ∈ xs) : gsp x0 xs 0 = gsp x1 xs 0 := by
  refine Nat.dvd_antisymm ?_ ?_
  · exact (dvd_gsp x1 _ xs 0).mpr ⟨Nat.dvd_zero _, fun x hx => dvd_diff (gsp_mod x0 xs x hx) (gsp_mod x0 xs x1 h1)⟩
  · exact (dvd_gsp x0 _ xs 0).mpr ⟨Nat.dvd_zero _, fun x hx => dvd_diff (gsp_mod x1 xs x hx) (gsp_mod x1 xs x0 h0)⟩
theorem md_ok (x0 : Int) (xs : List Int) (h : Small (x0 :: xs)) (om : List Cell) : ∃ b : Bool, F_meets_due [.lst (intsD (x0 :: xs))] om = .ok (.sh (.bl b)) om ∧ (b = true ↔ Meets (x0 :: xs)) := by
  have e := cs_ok x0 xs h om
  have hi := meets_iff (x0 := x0) (xs := x0 :: xs) (by simp)
  have h0 : oIx (.lst (intsD (x0 :: xs))) (.int 0) = some (.sh (.int x0)) := by simp
  obtain ⟨g, hg⟩ : ∃ g, g = gsp x0 (x0 :: xs) 0 := ⟨_, rfl⟩
  obtain ⟨L, hL⟩ : ∃ L, L = D.lst (intsD (x0 :: xs)) := ⟨_, rfl⟩
  rw [← hL] at e h0 ⊢
  rw [← hg] at hi e
  by_cases c : g = 0
  · refine ⟨x0 == 0, by simp [F_meets_due, e, c, h0], ?_⟩
    rw [← hi, c]
    simp
  · refine ⟨x0 % (g : Int) == 0, by simp [F_meets_due, e, c, h0, show 0 < g by omega], ?_⟩
    rw [← hi]
    simp [Int.dvd_iff_emod_eq_zero]
theorem zip_map_tup : ∀ (a b : List Int), (((intsD a).zip (intsD b)).map fun p => D.tup [p.1, p.2]) = (a.zip b).map fun p => D.tup [.int p.1, .int p.2]
  | [], _ => by simp
  | _ :: _, [] => by simp
  | x :: a, y :: b => by
    have := zip_map_tup a b
    simp only [intsD, List.map_cons, List.zip_cons_cons] at this ⊢
    rw [this]
/-- differences -/
def shifts (a b : List Int) : List Int := (a.zip b).map fun p => p.1 - p.2
theorem ls_ok (a b : List Int) (t : Bool) (hl : a.length ≤ 1000) (om : List Cell) : F_late_shifts [.lst (intsD a), sq t (intsD b)] om = .ok (.ow (intsD (shifts a b))) om := by
  have hz : iZip2 (aCons (eVar 0) (aCons (eVar 1) aNil)) ⟨[some (.sh (.lst (intsD a))), some (.sh (sq t (intsD b))), none, none], om⟩ = .ok ((a.zip b).map fun p => D.tup [.int p.1, .int p.2]) ⟨[some (.sh (.lst (intsD a))), some (.sh (sq t (intsD b))), none, none], om⟩ := by
    rw [← zip_map_tup]
    cases t <;> simp
  have cm := comp_eval (it := iZip2 (aCons (eVar 0) (aCons (eVar 1) aNil))) (g := gTp (gMore (gNm 2) (gMore (gNm 3) gNone))) (e := eOp oSub (eVar 2) (eVar 3)) (vs := [2, 3]) (st := ⟨[some (.sh (.lst (intsD a))), some (.sh (sq t (intsD b))), none, none], om⟩) (fun p : Int × Int => D.tup [.int p.1, .int p.2]) (fun p => .int (p.1 - p.2)) (a.zip b) hz (by simp) (by rw [List.length_zip]; omega)
    (fun p _ => ⟨⟨[some (.sh (.lst (intsD a))), some (.sh (sq t (intsD b))), some (.sh (.int p.1)), some (.sh (.int p.2))], om⟩, .sh (.int (p.1 - p.2)), ⟨[some (.sh (.lst (intsD a))), some (.sh (sq t (intsD b))), some (.sh (.int p.1)), some (.sh (.int p.2))], om⟩, rfl, by simp, rfl, rfl, rfl⟩) (by simp)
  have e : (a.zip b).map (fun p : Int × Int => D.int (p.1 - p.2)) = intsD (shifts a b) := by rw [shifts, intsD, List.map_map]; rfl
  rw [e] at cm
  have e0 : F_late_shifts [.lst (intsD a), sq t (intsD b)] om = (sRet late_shifts_c0 ⟨[some (.sh (.lst (intsD a))), some (.sh (sq t (intsD b))), none, none], om⟩).toF := rfl
  have cm : late_shifts_c0 ⟨[some (.sh (.lst (intsD a))), some (.sh (sq t (intsD b))), none, none], om⟩ = _ := cm
  rw [e0, x_ret, cm]
  rfl
theorem lls_ok (a b : List Int) (hl : a.length ≤ 1000) (om : List Cell) : F_law_e_shifts [.lst (intsD a), .lst (intsD b)] om = .ok (.ow (intsD (shifts a b))) om := ls_ok a b false hl om
/-! the law's own -/
theorem half {a b : Nat} (hb : 0 < b) (hr : 0 < a % b) : 2 * (b % (a % b)) < b := by
  have h1 := Nat.mod_lt a hb
  have h2 := Nat.mod_lt b hr
  have h3 := Nat.div_add_mod b (a % b)
  have h4 : 0 < b / (a % b) := Nat.div_pos (Nat.le_of_lt h1) hr
  have h5 : a % b ≤ a % b * (b / (a % b)) := Nat.le_mul_of_pos_right _ h4
  omega
theorem lg_step (d2 : Option Vl) (om : List Cell) (a b : Nat) (lo : Int) (xs : List D) (hb : 0 < b) : forGo (gNm 2) law_e_gcd_1b (.int lo :: xs) ⟨[some (.sh (.int a)), some (.sh (.int b)), d2], om⟩ = forGo (gNm 2) law_e_gcd_1b xs ⟨[some (.sh (.int b)), some (.sh (.int (a % b : Nat))), some (.sh (.int lo))], om⟩ := by
  rw [x_forCons]
  simp [law_e_gcd_1b, law_e_gcd_1b_0, law_e_gcd_1b_1, show b ≠ 0 by omega, hb]
theorem lg_end (d2 : Option Vl) (om : List Cell) (a : Nat) (lo : Int) (xs : List D) : ∃ s', forGo (gNm 2) law_e_gcd_1b (.int lo :: xs) ⟨[some (.sh (.int a)), some (.sh (.int 0)), d2], om⟩ = .rt (.sh (.int a)) s' ∧ s'.om = om := by
  rw [x_forCons]
  exact ⟨⟨[some (.sh (.int a)), some (.sh (.int 0)), some (.sh (.int lo))], om⟩, by simp [law_e_gcd_1b, law_e_gcd_1b_0, law_e_gcd_1b_0t], rfl⟩
theorem lg_go (om : List Cell) : ∀ (k b a n : Nat) (d2 : Option Vl) (lo : Int), b < 2 ^ k → 2 * k < n →
    ∃ s', forGo (gNm 2) law_e_gcd_1b (rangeD lo n) ⟨[some (.sh (.int a)), some (.sh (.int b)), d2], om⟩ = .rt (.sh (.int (Nat.gcd a b : Nat))) s' ∧ s'.om = om := by
  intro k
  induction k with
  | zero =>
    intro b a n d2 lo hb hn
    obtain rfl : b = 0 := by omega
    obtain ⟨n, rfl⟩ : ∃ n', n = n' + 1 := ⟨n - 1, by omega⟩
    rw [Lib.rangeD_succ]
    simpa using lg_end d2 om a lo _
  | succ k ih =>
    intro b a n d2 lo hb hn
    obtain ⟨n, rfl⟩ : ∃ n', n = n' + 2 := ⟨n - 2, by omega⟩
    rw [Lib.rangeD_succ, Lib.rangeD_succ]
    by_cases h : b = 0
    · subst h
      simpa using lg_end d2 om a lo _
    · have hb0 : 0 < b := by omega
      rw [lg_step _ _ _ _ _ _ hb0]
      have e1 : Nat.gcd a b = Nat.gcd b (a % b) := by rw [Nat.gcd_comm b, ← Nat.gcd_rec, Nat.gcd_comm]
      by_cases h2 : a % b = 0
      · rw [e1, h2]
        simpa using lg_end _ om b (lo + 1) _
      · have hr : 0 < a % b := by omega
        rw [lg_step _ _ _ _ _ _ hr]
        have e2 : Nat.gcd b (a % b) = Nat.gcd (a % b) (b % (a % b)) := by rw [Nat.gcd_comm (a % b), ← Nat.gcd_rec, Nat.gcd_comm]
        rw [e1, e2]
        have := half (a := a) hb0 hr
        exact ih _ _ n _ (lo + 1 + 1) (by rw [Nat.pow_succ] at hb; omega) (by omega)
theorem lg_ok (a b : Int) (om : List Cell) (hb : b.natAbs < 2 ^ 150) : F_law_e_gcd [.int a, .int b] om = .ok (.sh (.int (Int.gcd a b : Nat))) om := by
  obtain ⟨s', e, i⟩ := lg_go om 150 b.natAbs a.natAbs 400 none 0 hb (by decide)
  have e1 : law_e_gcd_1 ⟨[some (.sh (.int a.natAbs)), some (.sh (.int b.natAbs)), none], om⟩ = .rt (.sh (.int (Nat.gcd a.natAbs b.natAbs : Nat))) s' := by
    rw [← e]
    simp [law_e_gcd_1]
  rw [law_e_gcd_eq]
  simp [law_e_gcd_0, e1, i]
  rfl
theorem Small.sub2 {xs : List Int} (h : Small xs) {x y : Int} (hx : x ∈ xs) (hy : y ∈ xs) : (x - y).natAbs < 2 ^ 150 := by
  have h1 := h x hx
  have h2 := h y hy
  exact Nat.lt_of_lt_of_le (show (x - y).natAbs < 2 ^ 20 by omega) (Nat.pow_le_pow_right (by decide) (by decide))
theorem lgr_go (L : D) (d0 d1 d3 : Option Vl) (x0 : Int) (hL : oIx L (.int (-1)) = some (.sh (.int x0))) (h3 : d3 = some (.sh L)) (om : List Cell) : ∀ (xs : List Int) (g : Nat) (d2 : Option Vl), (∀ x ∈ xs, (x - x0).natAbs < 2 ^ 150) →
    ∃ d2', forGo (gNm 2) law_e_grain_1b (intsD xs) ⟨[d0, d1, d2, d3, some (.sh (.int g))], om⟩ = .nx ⟨[d0, d1, d2', d3, some (.sh (.int (gsp x0 xs g : Nat)))], om⟩ := by
  subst h3
  intro xs
  induction xs with
  | nil => intro g d2 _; exact ⟨d2, rfl⟩
  | cons x xs ih =>
    intro g d2 hs
    have hx := lg_ok g (x - x0) om (hs x (by simp))
    obtain ⟨d2', e⟩ := ih (Nat.gcd g (x - x0).natAbs) (some (.sh (.int x))) fun y hy => hs y (by simp [hy])
    refine ⟨d2', ?_⟩
    rw [show gsp x0 (x :: xs) g = gsp x0 xs (Nat.gcd g (x - x0).natAbs) from rfl, ← e]
    have : Int.gcd (g : Int) (x - x0) = Nat.gcd g (x - x0).natAbs := rfl
    simp only [intsD, List.map_cons, x_forCons]
    simp [law_e_grain_1b, hL, hx, this]
/-- the grain of some differences, by any of them -/
def grain (xs : List Int) : Nat := gsp (xs.headD 0) xs 0
theorem grain_of_mem {xs : List Int} {x : Int} (h : x ∈ xs) : gsp x xs 0 = grain xs := by
  cases xs with
  | nil => simp at h
  | cons y xs => exact gsp_same h (by simp)
theorem lgr_ok (a b : List Int) (ha : a.length ≤ 1000) (hn : shifts a b ≠ []) (h : Small (shifts a b)) (om : List Cell) : F_law_e_grain [.lst (intsD a), .lst (intsD b)] om = .ok (.sh (.int (grain (shifts a b) : Nat))) om := by
  have e := lls_ok a b ha om
  obtain ⟨S, hS⟩ : ∃ S, S = shifts a b := ⟨_, rfl⟩
  rw [← hS] at e hn h ⊢
  have hx : intsD S ≠ [] := by simpa using hn
  have hL : oIx (.lst (intsD S)) (.int (-1)) = some (.sh (.int (S.getLast hn))) := by
    rw [ix_lst, at_last hx]
    simp [intsD, List.getLast_map]
  obtain ⟨R, hR⟩ : ∃ R, R = intsD S := ⟨_, rfl⟩
  obtain ⟨d2', e1⟩ := lgr_go (.lst R) (some (.sh (.lst (intsD a)))) (some (.sh (.lst (intsD b)))) (some (.sh (.lst R))) (S.getLast hn) (by rw [hR]; exact hL) rfl om S 0 none fun x hx => h.sub2 hx (List.getLast_mem hn)
  rw [grain_of_mem (List.getLast_mem hn)] at e1
  rw [← hR] at e e1
  have e2 : law_e_grain_1 ⟨[some (.sh (.lst (intsD a))), some (.sh (.lst (intsD b))), none, some (.ow R), some (.sh (.int 0))], om⟩ = .nx ⟨[some (.sh (.lst (intsD a))), some (.sh (.lst (intsD b))), d2', some (.sh (.lst R)), some (.sh (.int (grain S : Nat)))], om⟩ := by
    simp only [Int.natCast_zero] at e1
    rw [← e1]
    simp [law_e_grain_1]
  rw [law_e_grain_eq]
  simp [law_e_grain_0, law_e_grain_2, e, e2]
theorem shifts_len {a b : List Int} (h : a.length = b.length) : (shifts a b).length = a.length := by
  rw [shifts, List.length_map, List.length_zip]; omega
theorem last_zip : ∀ (a b : List Int) (h : a.length = b.length) (ha : a ≠ []) (hb : b ≠ []) (hs : shifts a b ≠ []), (shifts a b).getLast hs = a.getLast ha - b.getLast hb
  | [x], [y], _, _, _, _ => rfl
  | x :: x2 :: a, y :: y2 :: b, h, _, _, _ => by
    have := last_zip (x2 :: a) (y2 :: b) (by simpa using h) (by simp) (by simp) (by simp [shifts])
    simpa [shifts] using this
theorem lm_ok (a b : List Int) (hab : a.length = b.length) (ha0 : a ≠ []) (ha : a.length ≤ 1000) (h : Small (shifts a b)) (om : List Cell) : ∃ t : Bool, F_law_e_meets [.lst (intsD a), .lst (intsD b)] om = .ok (.sh (.bl t)) om ∧ (t = true ↔ Meets (shifts a b)) := by
  have hb0 : b ≠ [] := fun e => by subst e; exact ha0 (List.length_eq_zero_iff.mp hab)
  have hn : shifts a b ≠ [] := fun e => ha0 (List.length_eq_zero_iff.mp (by rw [← shifts_len hab, e]; rfl))
  have e := lgr_ok a b ha hn h om
  have hi := meets_iff (x0 := (shifts a b).getLast hn) (xs := shifts a b) (List.getLast_mem hn)
  rw [grain_of_mem (List.getLast_mem hn)] at hi
  have hl := last_zip a b hab ha0 hb0 hn
  have la : oIx (.lst (intsD a)) (.int (-1)) = some (.sh (.int (a.getLast ha0))) := by
    rw [ix_lst, at_last (show intsD a ≠ [] by simpa using ha0)]; simp [intsD, List.getLast_map]
  have lb : oIx (.lst (intsD b)) (.int (-1)) = some (.sh (.int (b.getLast hb0))) := by
    rw [ix_lst, at_last (show intsD b ≠ [] by simpa using hb0)]; simp [intsD, List.getLast_map]
  rw [hl] at hi
  obtain ⟨g, hg⟩ : ∃ g, g = grain (shifts a b) := ⟨_, rfl⟩
  obtain ⟨A, hA⟩ : ∃ A, A = D.lst (intsD a) := ⟨_, rfl⟩
  obtain ⟨B, hB⟩ : ∃ B, B = D.lst (intsD b) := ⟨_, rfl⟩
  rw [← hg] at hi e
  rw [← hA, ← hB] at e ⊢
  rw [← hA] at la
  rw [← hB] at lb
  obtain ⟨z, hz⟩ : ∃ z, z = a.getLast ha0 - b.getLast hb0 := ⟨_, rfl⟩
  rw [← hz] at hi
  by_cases c : g = 0
  · refine ⟨z == 0, by simp [F_law_e_meets, e, la, lb, c, hz], ?_⟩
    rw [← hi, c]
    simp
  · refine ⟨z % (g : Int) == 0, by simp [F_law_e_meets, e, la, lb, c, hz, show 0 < g by omega], ?_⟩
    rw [← hi]
    simp [Int.dvd_iff_emod_eq_zero]
end Mini.LibR

set_option linter.all false
set_option maxRecDepth 100000
/-! PyReach: what is reached from a thing by lines. -/
namespace Mini.LibR
open Mini PySem
/-! ### plain -/
section
variable {α : Type} [DecidableEq α]
def nbrs (lines : List (α × α)) (a : α) : List α := lines.flatMap fun l => (if a = l.1 then [l.2] else []) ++ (if a = l.2 then [l.1] else [])
theorem mem_nbrs {lines : List (α × α)} {a b : α} : b ∈ nbrs lines a ↔ (a, b) ∈ lines ∨ (b, a) ∈ lines := by
  unfold nbrs
  rw [List.mem_flatMap]
  constructor
  · rintro ⟨⟨x, y⟩, hl, h⟩
    rcases List.mem_append.mp h with h | h
    · by_cases e : a = x
      · subst e; simp at h; subst h; exact .inl hl
      · simp [e] at h
    · by_cases e : a = y
      · subst e; simp at h; subst h; exact .inr hl
      · simp [e] at h
  · rintro (h | h)
    · exact ⟨_, h, by simp⟩
    · exact ⟨_, h, by simp⟩
inductive Rch (lines : List (α × α)) (start : α) : α → Prop
  | refl : Rch lines start start
  | step {a b : α} : Rch lines start a → b ∈ nbrs lines a → Rch lines start b
abbrev ks (S : List (α × Int)) : List α := S.map Prod.fst
def visit (t : Int) (sw : List (α × Int) × List α) (b : α) : List (α × Int) × List α := if b ∈ ks sw.1 then sw else (sw.1 ++ [(b, t + 1)], sw.2 ++ [b])
def visits (t : Int) (sw : List (α × Int) × List α) (bs : List α) : List (α × Int) × List α := bs.foldl (visit t) sw
def expand (lk : α → List α) (t : Int) (sw : List (α × Int) × List α) (rim : List α) : List (α × Int) × List α := rim.foldl (fun sw a => visits t sw (lk a)) sw
def bfs (lk : α → List α) : Nat → Int → List (α × Int) → List α → List (α × Int)
  | 0, _, S, _ => S
  | n + 1, t, S, rim => if (expand lk t (S, []) rim).2 = [] then (expand lk t (S, []) rim).1 else bfs lk n (t + 1) (expand lk t (S, []) rim).1 (expand lk t (S, []) rim).2
/-- lines within -/
def within (lines : List (α × α)) (K : List α) : Nat := lines.countP fun l => decide (l.1 ∈ K) && decide (l.2 ∈ K)
theorem within_grow {a b : α} {K : List α} (ha : a ∈ K) (hb : b ∉ K) : ∀ {lines : List (α × α)}, b ∈ nbrs lines a → within lines K < within lines (K ++ [b]) := by
  have mono : ∀ l : List (α × α), within l K ≤ within l (K ++ [b]) := fun l => List.countP_mono_left fun x _ hx => by
    simp only [Bool.and_eq_true, decide_eq_true_eq] at hx ⊢
    exact ⟨List.mem_append_left _ hx.1, List.mem_append_left _ hx.2⟩
  have key : ∀ l : List (α × α), (∃ x ∈ l, x = (a, b) ∨ x = (b, a)) → within l K < within l (K ++ [b]) := by
    intro l
    induction l with
    | nil => rintro ⟨x, hx, _⟩; simp at hx
    | cons y l ih =>
      rintro ⟨x, hx, e⟩
      unfold within
      rw [List.countP_cons, List.countP_cons]
      have m := mono l
      unfold within at m
      by_cases hy : y = (a, b) ∨ y = (b, a)
      · have h1 : (decide (y.1 ∈ K) && decide (y.2 ∈ K)) = false := by rcases hy with rfl | rfl <;> simp [hb]
        have h2 : (decide (y.1 ∈ K ++ [b]) && decide (y.2 ∈ K ++ [b])) = true := by rcases hy with rfl | rfl <;> simp [ha]
        rw [h1, h2]
        simp only [Bool.false_eq_true, if_false, if_true]
        omega
      · have : x ∈ l := by
          rcases List.mem_cons.mp hx with rfl | h
          · exact absurd e hy
          · exact h
        have := ih ⟨x, this, e⟩
        unfold within at this
        by_cases c : (decide (y.1 ∈ K) && decide (y.2 ∈ K)) = true
        · have c2 : (decide (y.1 ∈ K ++ [b]) && decide (y.2 ∈ K ++ [b])) = true := by
            simp only [Bool.and_eq_true, decide_eq_true_eq] at c ⊢
            exact ⟨List.mem_append_left _ c.1, List.mem_append_left _ c.2⟩
          rw [c, c2]; simp only [if_true]; omega
        · rw [if_neg c]
          split <;> omega
  intro lines h
  refine key lines ?_
  rcases mem_nbrs.mp h with h | h
  · exact ⟨_, h, .inl rfl⟩
  · exact ⟨_, h, .inr rfl⟩
/-- what holds of what was found -/
structure Fd (lines : List (α × α)) (start : α) (S : List (α × Int)) : Prop where
  nd : (ks S).Nodup
  st : start ∈ ks S
  snd : ∀ a ∈ ks S, Rch lines start a
  cnt : (ks S).length ≤ 1 + within lines (ks S)
theorem ks_app (S : List (α × Int)) (b : α) (t : Int) : ks (S ++ [(b, t)]) = ks S ++ [b] := by simp
theorem Fd.add {lines : List (α × α)} {start a b : α} {S : List (α × Int)} {t : Int} (F : Fd lines start S) (ha : a ∈ ks S) (hb : b ∉ ks S) (h : b ∈ nbrs lines a) : Fd lines start (S ++ [(b, t)]) := by
  refine ⟨?_, ?_, ?_, ?_⟩
  · rw [ks_app]
    exact List.nodup_append.mpr ⟨F.nd, by simp, fun x hx y hy => by simp at hy; subst hy; exact fun e => hb (e ▸ hx)⟩
  · rw [ks_app]; exact List.mem_append_left _ F.st
  · rw [ks_app]
    intro x hx
    rcases List.mem_append.mp hx with hx | hx
    · exact F.snd x hx
    · simp at hx; subst hx; exact .step (F.snd a ha) h
  · rw [ks_app, List.length_append]
    have := within_grow ha hb h
    have := F.cnt
    simp only [List.length_cons, List.length_nil]
    omega
/-- S, w grew from S0, w0 by visits -/
structure Grow (S0 : List (α × Int)) (w0 : List α) (S : List (α × Int)) (w : List α) : Prop where
  sub : ∀ a ∈ ks S0, a ∈ ks S
  wsub : ∀ a ∈ w, a ∈ w0 ∨ a ∈ ks S
  new : ∀ a ∈ ks S, a ∈ ks S0 ∨ a ∈ w
  wold : ∀ a ∈ w0, a ∈ w
  len : (ks S).length + w0.length = (ks S0).length + w.length
theorem visits_ok {lines : List (α × α)} {start a : α} {t : Int} : ∀ (bs : List α) (S : List (α × Int)) (w : List α), Fd lines start S → a ∈ ks S → (∀ b ∈ bs, b ∈ nbrs lines a) →
    Fd lines start (visits t (S, w) bs).1 ∧ Grow S w (visits t (S, w) bs).1 (visits t (S, w) bs).2 ∧ ∀ b ∈ bs, b ∈ ks (visits t (S, w) bs).1
  | [], S, w, F, _, _ => ⟨F, ⟨fun _ h => h, fun _ h => .inl h, fun _ h => .inl h, fun _ h => h, rfl⟩, fun b h => by simp at h⟩
  | b :: bs, S, w, F, ha, hb => by
    show Fd lines start (visits t (visit t (S, w) b) bs).1 ∧ Grow S w (visits t (visit t (S, w) b) bs).1 (visits t (visit t (S, w) b) bs).2 ∧ _
    by_cases c : b ∈ ks S
    · have e : visit t (S, w) b = (S, w) := if_pos c
      show Fd lines start (visits t (visit t (S, w) b) bs).1 ∧ Grow S w (visits t (visit t (S, w) b) bs).1 (visits t (visit t (S, w) b) bs).2 ∧ ∀ x ∈ b :: bs, x ∈ ks (visits t (visit t (S, w) b) bs).1
      rw [e]
      obtain ⟨h1, h2, h3⟩ := visits_ok (t := t) bs S w F ha fun x hx => hb x (by simp [hx])
      refine ⟨h1, h2, fun x hx => ?_⟩
      rcases List.mem_cons.mp hx with rfl | hx
      · exact h2.sub _ c
      · exact h3 x hx
    · have e : visit t (S, w) b = (S ++ [(b, t + 1)], w ++ [b]) := if_neg c
      show Fd lines start (visits t (visit t (S, w) b) bs).1 ∧ Grow S w (visits t (visit t (S, w) b) bs).1 (visits t (visit t (S, w) b) bs).2 ∧ ∀ x ∈ b :: bs, x ∈ ks (visits t (visit t (S, w) b) bs).1
      rw [e]
      have hk := ks_app S b (t + 1)
      obtain ⟨h1, h2, h3⟩ := visits_ok (t := t) bs (S ++ [(b, t + 1)]) (w ++ [b]) (F.add (t := t + 1) ha c (hb b (by simp))) (by rw [hk]; exact List.mem_append_left _ ha) fun x hx => hb x (by simp [hx])
      have hin : b ∈ ks (S ++ [(b, t + 1)]) := by rw [hk]; simp
      refine ⟨h1, ⟨fun x hx => h2.sub x (by rw [hk]; exact List.mem_append_left _ hx), fun x hx => ?_, fun x hx => ?_, fun x hx => h2.wold x (List.mem_append_left _ hx), ?_⟩, fun x hx => ?_⟩
      · rcases h2.wsub x hx with h | h
        · rcases List.mem_append.mp h with h | h
          · exact .inl h
          · simp at h; subst h; exact .inr (h2.sub _ hin)
        · exact .inr h
      · rcases h2.new x hx with h | h
        · rw [hk] at h
          rcases List.mem_append.mp h with h | h
          · exact .inl h
          · exact .inr (h2.wold x (List.mem_append_right _ h))
        · exact .inr h
      · have := h2.len
        rw [hk] at this
        simp only [List.length_append, List.length_cons, List.length_nil] at this
        omega
      · rcases List.mem_cons.mp hx with rfl | hx
        · exact h2.sub _ hin
        · exact h3 x hx
theorem expand_ok {lines : List (α × α)} {start : α} {t : Int} : ∀ (rim : List α) (S : List (α × Int)) (w : List α), Fd lines start S → (∀ a ∈ rim, a ∈ ks S) →
    Fd lines start (expand (nbrs lines) t (S, w) rim).1 ∧ Grow S w (expand (nbrs lines) t (S, w) rim).1 (expand (nbrs lines) t (S, w) rim).2 ∧ ∀ a ∈ rim, ∀ b ∈ nbrs lines a, b ∈ ks (expand (nbrs lines) t (S, w) rim).1
  | [], S, w, F, _ => ⟨F, ⟨fun _ h => h, fun _ h => .inl h, fun _ h => .inl h, fun _ h => h, rfl⟩, fun b h => by simp at h⟩
  | a :: rim, S, w, F, hr => by
    obtain ⟨h1, h2, h3⟩ := visits_ok (t := t) (nbrs lines a) S w F (hr a (by simp)) fun b h => h
    obtain ⟨S1, w1, e⟩ : ∃ S1 w1, visits t (S, w) (nbrs lines a) = (S1, w1) := ⟨_, _, rfl⟩
    rw [e] at h1 h2 h3
    have e2 : expand (nbrs lines) t (S, w) (a :: rim) = expand (nbrs lines) t (S1, w1) rim := by rw [← e]; rfl
    rw [e2]
    obtain ⟨g1, g2, g3⟩ := expand_ok (t := t) rim S1 w1 h1 fun x hx => h2.sub x (hr x (by simp [hx]))
    refine ⟨g1, ⟨fun x hx => g2.sub x (h2.sub x hx), fun x hx => ?_, fun x hx => ?_, fun x hx => g2.wold x (h2.wold x hx), ?_⟩, fun x hx b hb => ?_⟩
    · rcases g2.wsub x hx with h | h
      · rcases h2.wsub x h with h | h
        · exact .inl h
        · exact .inr (g2.sub x h)
      · exact .inr h
    · rcases g2.new x hx with h | h
      · rcases h2.new x h with h | h
        · exact .inl h
        · exact .inr (g2.wold x h)
      · exact .inr h
    · have a1 := h2.len
      have a2 := g2.len
      simp only at a1 a2
      omega
    · rcases List.mem_cons.mp hx with rfl | hx
      · exact g2.sub b (h3 b hb)
      · exact g3 x hx b hb
theorem bfs_ok {lines : List (α × α)} {start : α} : ∀ (n : Nat) (t : Int) (S : List (α × Int)) (rim : List α), Fd lines start S → (∀ a ∈ rim, a ∈ ks S) → (∀ a ∈ ks S, a ∉ rim → ∀ b ∈ nbrs lines a, b ∈ ks S) → lines.length + 2 ≤ (ks S).length + n →
    Fd lines start (bfs (nbrs lines) n t S rim) ∧ ∀ a ∈ ks (bfs (nbrs lines) n t S rim), ∀ b ∈ nbrs lines a, b ∈ ks (bfs (nbrs lines) n t S rim)
  | 0, t, S, rim, F, _, _, hn => by
    have h1 := F.cnt
    have h2 : within lines (ks S) ≤ lines.length := List.countP_le_length
    omega
  | n + 1, t, S, rim, F, hr, hc, hn => by
    obtain ⟨h1, h2, h3⟩ := expand_ok (t := t) rim S [] F hr
    unfold bfs
    obtain ⟨S1, w1, e⟩ : ∃ S1 w1, expand (nbrs lines) t (S, []) rim = (S1, w1) := ⟨_, _, rfl⟩
    rw [e] at h1 h2 h3 ⊢
    simp only at h1 h2 h3 ⊢
    have clo : ∀ a ∈ ks S1, a ∉ w1 → ∀ b ∈ nbrs lines a, b ∈ ks S1 := fun a ha hw b hb => by
      rcases h2.new a ha with h | h
      · by_cases c : a ∈ rim
        · exact h3 a c b hb
        · exact h2.sub b (hc a h c b hb)
      · exact absurd h hw
    split
    · rename_i hw
      subst hw
      exact ⟨h1, fun a ha b hb => clo a ha (by simp) b hb⟩
    · rename_i hw
      have hl := h2.len
      have : 0 < w1.length := List.length_pos_iff.mpr hw
      exact bfs_ok n (t + 1) S1 w1 h1 (fun a ha => (h2.wsub a ha).elim (fun z => by simp at z) id) clo (by simp only [List.length_nil, Nat.add_zero] at hl; omega)
/-- what is found is what can be reached -/
theorem bfs_iff (lines : List (α × α)) (start b : α) : b ∈ ks (bfs (nbrs lines) (lines.length + 1) 0 [(start, 0)] [start]) ↔ Rch lines start b := by
  obtain ⟨F, c⟩ := bfs_ok (lines := lines) (start := start) (lines.length + 1) 0 [(start, 0)] [start] ⟨by simp, by simp, fun a ha => by simp at ha; subst ha; exact .refl, by simp⟩ (by simp) (fun a ha hn => by simp at ha hn; exact absurd ha hn) (by simp; omega)
  refine ⟨F.snd b, fun h => ?_⟩
  induction h with
  | refl => exact F.st
  | step _ hb ih => exact c _ ih _ hb
end
/-! ### by the evaluator -/
section
variable {α : Type} [DecidableEq α]
/-- things as data -/
structure Things (nd : α → D) (kk : α → List Ky) : Prop where
  kt : ∀ a, (nd a).kt? = some (kk a)
  inj : ∀ a b, kk a = kk b → a = b
def nearK (kk : α → List Ky) : Nat → List (α × List α) → List (List Ky × D)
  | _, [] => []
  | b, p :: r => (kk p.1, .cell b) :: nearK kk (b + 1) r
def nbCell (nd : α → D) (p : α × List α) : Cell := .lst (p.2.map nd)
def foundK (kk : α → List Ky) (S : List (α × Int)) : List (List Ky × D) := S.map fun p => (kk p.1, .int p.2)
/-- the store: the two dicts, then the lists -/
def OM (nd : α → D) (kk : α → List Ky) (pre : List Cell) (S : List (α × Int)) (nl : List (α × List α)) : List Cell := pre ++ (.dT (nearK kk (pre.length + 2) nl) :: .dT (foundK kk S) :: nl.map (nbCell nd))
variable {nd : α → D} {kk : α → List Ky} (H : Things nd kk)
theorem nearK_len : ∀ (nl : List (α × List α)) (b : Nat), (nearK kk b nl).length = nl.length
  | [], _ => rfl
  | _ :: nl, b => by simp [nearK, nearK_len nl (b + 1)]
theorem nearK_app : ∀ (nl : List (α × List α)) (b : Nat) (a : α) (xs : List α), nearK kk b (nl ++ [(a, xs)]) = nearK kk b nl ++ [(kk a, .cell (b + nl.length))]
  | [], b, a, xs => by simp [nearK]
  | p :: nl, b, a, xs => by
    have := nearK_app nl (b + 1) a xs
    simp only [List.cons_append, nearK, this, List.length_cons]
    simp only [List.cons_append, List.cons.injEq, true_and, List.append_cancel_left_eq, Prod.mk.injEq, D.cell.injEq, and_true]
    omega
theorem nearK_set : ∀ (nl : List (α × List α)) (b i : Nat) (a : α) (xs ys : List α), nl[i]? = some (a, xs) → nearK kk b (nl.set i (a, ys)) = nearK kk b nl
  | [], _, _, _, _, _, h => by simp at h
  | p :: nl, b, 0, a, xs, ys, h => by
    have : p = (a, xs) := by simpa using h
    subst this
    rfl
  | p :: nl, b, i + 1, a, xs, ys, h => by
    simp only [List.set_cons_succ, nearK, nearK_set nl (b + 1) i a xs ys (by simpa using h)]
/-- what stands with a thing -/
def look (nl : List (α × List α)) (a : α) : List α := match nl.find? (fun p => decide (p.1 = a)) with
  | some p => p.2
  | none => []
include H in
theorem near_cases (nl : List (α × List α)) (b : Nat) (a : α) : (kvGet (nearK kk b nl) (kk a) = none ∧ look nl a = [] ∧ a ∉ nl.map Prod.fst) ∨ ∃ i, kvGet (nearK kk b nl) (kk a) = some (.cell (b + i)) ∧ nl[i]? = some (a, look nl a) := by
  induction nl generalizing b with
  | nil => exact .inl ⟨rfl, rfl, by simp⟩
  | cons p nl ih =>
    by_cases h : p.1 = a
    · refine .inr ⟨0, ?_, ?_⟩
      · simp [nearK, kvGet, h]
      · have : p = (a, p.2) := by rw [← h]
        simp only [List.getElem?_cons_zero, look, List.find?_cons, h, decide_true]
        rw [← this]
    · have h' : ¬ kk p.1 = kk a := fun e => h (H.inj _ _ e)
      have e1 : kvGet (nearK kk b (p :: nl)) (kk a) = kvGet (nearK kk (b + 1) nl) (kk a) := by simp [nearK, kvGet, h']
      have e2 : look (p :: nl) a = look nl a := by simp [look, h]
      rw [e1, e2]
      rcases ih (b + 1) with ⟨x, y, z⟩ | ⟨i, x, y⟩
      · exact .inl ⟨x, y, by simp only [List.map_cons, List.mem_cons, not_or]; exact ⟨fun e => h e.symm, z⟩⟩
      · exact .inr ⟨i + 1, by rw [x, Nat.add_right_comm, Nat.add_assoc], by simpa using y⟩
theorem look_app (nl : List (α × List α)) (a c : α) (h : a ∉ nl.map Prod.fst) : look (nl ++ [(a, [])]) c = look nl c := by
  unfold look
  rw [List.find?_append]
  cases e : nl.find? (fun p => decide (p.1 = c)) with
  | some p => rfl
  | none =>
    by_cases hc : a = c
    · simp [hc]
    · simp [hc]
theorem look_set : ∀ (nl : List (α × List α)) (i : Nat) (a c : α) (b : α), (nl.map Prod.fst).Nodup → nl[i]? = some (a, look nl a) → look (nl.set i (a, look nl a ++ [b])) c = look nl c ++ (if c = a then [b] else [])
  | [], _, _, _, _, _, h => by simp at h
  | p :: nl, 0, a, c, b, _, h => by
    have hp : p = (a, look (p :: nl) a) := by simpa using h
    have h1 : p.1 = a := by rw [hp]
    by_cases hc : c = a
    · subst hc
      have e : look ((p :: nl).set 0 (c, look (p :: nl) c ++ [b])) c = look (p :: nl) c ++ [b] := by simp [look]
      rw [e, if_pos rfl]
    · have hca : ¬ a = c := fun e => hc e.symm
      have hpc : ¬ p.1 = c := by rw [h1]; exact hca
      rw [if_neg hc, List.append_nil]
      simp [look, hca, hpc]
  | p :: nl, i + 1, a, c, b, hn, h => by
    have hi : nl[i]? = some (a, look (p :: nl) a) := by simpa using h
    have hmem : a ∈ nl.map Prod.fst := List.mem_map.mpr ⟨_, List.mem_of_getElem? hi, rfl⟩
    rw [List.map_cons, List.nodup_cons] at hn
    have hp : ¬ p.1 = a := fun e => hn.1 (e ▸ hmem)
    have e0 : look (p :: nl) a = look nl a := by simp [look, hp]
    rw [e0] at hi ⊢
    have ih := look_set nl i a c b hn.2 hi
    rw [List.set_cons_succ]
    by_cases hc : p.1 = c
    · have hca : ¬ c = a := fun e => hp (hc.trans e)
      rw [if_neg hca, List.append_nil]
      simp [look, hc]
    · have e1 : ∀ l : List (α × List α), look (p :: l) c = look l c := fun l => by simp [look, hc]
      rw [e1, e1, ih]
section
variable (pre : List Cell) (S : List (α × Int)) (nl : List (α × List α))
theorem om_near : (OM nd kk pre S nl)[pre.length]? = some (.dT (nearK kk (pre.length + 2) nl)) := by simp [OM]
theorem om_found : (OM nd kk pre S nl)[pre.length + 1]? = some (.dT (foundK kk S)) := by simp [OM]
theorem om_cell (i : Nat) (p : α × List α) (h : nl[i]? = some p) : (OM nd kk pre S nl)[pre.length + 2 + i]? = some (nbCell nd p) := by
  unfold OM
  rw [List.getElem?_append_right (by omega), show pre.length + 2 + i - pre.length = i + 2 by omega]
  simp [h]
theorem om_len : (OM nd kk pre S nl).length = pre.length + 2 + nl.length := by simp [OM]; omega
theorem om_setF (S' : List (α × Int)) : (OM nd kk pre S nl).set (pre.length + 1) (.dT (foundK kk S')) = OM nd kk pre S' nl := by simp [OM]
theorem om_setC (i : Nat) (a : α) (xs ys : List α) (h : nl[i]? = some (a, xs)) : (OM nd kk pre S nl).set (pre.length + 2 + i) (.lst (ys.map nd)) = OM nd kk pre S (nl.set i (a, ys)) := by
  unfold OM
  rw [List.set_append_right _ _ (by omega), show pre.length + 2 + i - pre.length = i + 2 by omega, nearK_set nl _ i a xs ys h]
  simp only [List.set_cons_succ, List.map_set]
  rfl
theorem om_new (a : α) : (OM nd kk pre S nl ++ [Cell.lst []]).set pre.length (.dT (nearK kk (pre.length + 2) nl ++ [(kk a, .cell (pre.length + 2 + nl.length))])) = OM nd kk pre S (nl ++ [(a, [])]) := by
  unfold OM
  rw [nearK_app, List.append_assoc, List.set_append_right _ _ (by omega)]
  simp [nbCell]
end
theorem put_new {β : Type} [DecidableEq β] (kvs : List (β × D)) (k : β) (d : D) (h : kvGet kvs k = none) : kvPut kvs k d = kvs ++ [(k, d)] := by
  unfold kvPut
  rw [if_neg]
  intro c
  rw [List.any_eq_true] at c
  obtain ⟨p, hp, e⟩ := c
  unfold kvGet at h
  rw [Option.map_eq_none_iff, List.find?_eq_none] at h
  exact h p hp e
/-- a line's end in the dict of neighbours -/
def touch (nl : List (α × List α)) (a : α) : List (α × List α) := if a ∈ nl.map Prod.fst then nl else nl ++ [(a, [])]
include H in
theorem setd_ok (pre : List Cell) (S : List (α × Int)) (nl : List (α × List α)) (hl : nl.length < 100000) (env : List (Option Vl)) (j : Nat) (a : α) (h3 : env[3]? = some (some (.sh (.cell pre.length)))) (hj : env[j]? = some (some (.sh (nd a)))) (hn : (nl.map Prod.fst).Nodup) :
    ∃ i nl', eTSetd (eVar 3) (eVar j) ⟨env, OM nd kk pre S nl⟩ = .ok (.sh (.cell (pre.length + 2 + i))) ⟨env, OM nd kk pre S nl'⟩ ∧ nl'[i]? = some (a, look nl' a) ∧ (∀ c, look nl' c = look nl c) ∧ (nl'.map Prod.fst).Nodup ∧ nl'.length ≤ nl.length + 1 := by
  have hk := nearK_len (kk := kk) nl (pre.length + 2)
  rcases near_cases H nl (pre.length + 2) a with ⟨x, y, z⟩ | ⟨i, x, y⟩
  · refine ⟨nl.length, nl ++ [(a, [])], ?_, ?_, fun c => look_app nl a c z, ?_, by simp⟩
    · simp [h3, hj, H.kt, om_near, x, hk, hl, om_len, put_new _ _ _ x, om_new]
    · rw [look_app nl a a z, y]; simp
    · rw [List.map_append]
      exact List.nodup_append.mpr ⟨hn, by simp, fun u hu v hv => by simp at hv; subst hv; exact fun e => z (e ▸ hu)⟩
  · exact ⟨i, nl, by simp [h3, hj, H.kt, om_near, x, hk, hl], y, fun c => rfl, hn, by omega⟩
def lineD (nd : α → D) (l : α × α) : D := .tup [nd l.1, nd l.2]
abbrev rE (L : D) (st d2 : Option Vl) (pre : List Cell) (d5 d6 d7 d8 d9 : Option Vl) : List (Option Vl) := [some (.sh L), st, d2, some (.sh (.cell pre.length)), some (.sh (.cell (pre.length + 1))), d5, d6, d7, d8, d9]
include H in
theorem build_go (L : D) (st d2 d5 d9 : Option Vl) (pre : List Cell) (S : List (α × Int)) : ∀ (ls : List (α × α)) (nl : List (α × List α)) (d6 d7 d8 : Option Vl), nl.length + 2 * ls.length < 100000 → (nl.map Prod.fst).Nodup → (∀ c, (look nl c).length + 2 * ls.length < 100000) →
    ∃ nl' d6' d7' d8', forGo (gTp (gMore (gNm 6) (gMore (gNm 7) gNone))) law_e_reach_1b (ls.map (lineD nd)) ⟨rE L st d2 pre d5 d6 d7 d8 d9, OM nd kk pre S nl⟩ = .nx ⟨rE L st d2 pre d5 d6' d7' d8' d9, OM nd kk pre S nl'⟩ ∧ (∀ c, look nl' c = look nl c ++ nbrs ls c) ∧ (nl'.map Prod.fst).Nodup
  | [], nl, d6, d7, d8, _, hn, _ => ⟨nl, d6, d7, d8, rfl, fun c => by simp [nbrs], hn⟩
  | (a, b) :: ls, nl, d6, d7, d8, hl, hn, hs => by
    simp only [List.length_cons] at hl hs
    obtain ⟨i, n1, e1, y1, k1, u1, l1⟩ := setd_ok H pre S nl (by omega) (rE L st d2 pre d5 (some (.sh (nd a))) (some (.sh (nd b))) d8 d9) 6 a rfl rfl hn
    have e2 := om_cell (nd := nd) (kk := kk) pre S n1 i _ y1
    have e3 := om_setC (nd := nd) (kk := kk) pre S n1 i a _ (look n1 a ++ [b]) y1
    have n2 : ((n1.set i (a, look n1 a ++ [b])).map Prod.fst) = n1.map Prod.fst := by
      rw [List.map_set]
      have : (n1.map Prod.fst)[i]? = some a := by rw [List.getElem?_map, y1]; rfl
      obtain ⟨hi, q⟩ := List.getElem?_eq_some_iff.mp this
      conv => rhs; rw [← List.set_getElem_self hi]
      rw [q]
    have k2 := fun c => look_set n1 i a c b u1 y1
    obtain ⟨j, n3, e4, y3, k3, u3, l3⟩ := setd_ok H pre S (n1.set i (a, look n1 a ++ [b])) (by rw [List.length_set]; omega) (rE L st d2 pre d5 (some (.sh (nd a))) (some (.sh (nd b))) (some (.sh (.cell (pre.length + 2 + i)))) d9) 7 b rfl rfl (by rw [n2]; exact u1)
    rw [List.length_set] at l3
    have e5 := om_cell (nd := nd) (kk := kk) pre S n3 j _ y3
    have e6 := om_setC (nd := nd) (kk := kk) pre S n3 j b _ (look n3 b ++ [a]) y3
    have n4 : ((n3.set j (b, look n3 b ++ [a])).map Prod.fst) = n3.map Prod.fst := by
      rw [List.map_set]
      have : (n3.map Prod.fst)[j]? = some b := by rw [List.getElem?_map, y3]; rfl
      obtain ⟨hi, q⟩ := List.getElem?_eq_some_iff.mp this
      conv => rhs; rw [← List.set_getElem_self hi]
      rw [q]
    have k4 := fun c => look_set n3 j b c a u3 y3
    have all : ∀ c, look (n3.set j (b, look n3 b ++ [a])) c = look nl c ++ ((if c = a then [b] else []) ++ (if c = b then [a] else [])) := fun c => by
      rw [k4, k3, k2, k1, List.append_assoc]
    have hlen : ∀ c, (look (n3.set j (b, look n3 b ++ [a])) c).length ≤ (look nl c).length + 2 := fun c => by
      rw [all, List.length_append, List.length_append]
      split <;> split <;> simp
    obtain ⟨nl', d6', d7', d8', e, k, u⟩ := build_go L st d2 d5 d9 pre S ls (n3.set j (b, look n3 b ++ [a])) (some (.sh (nd a))) (some (.sh (nd b))) (some (.sh (.cell (pre.length + 2 + j)))) (by rw [List.length_set]; omega) (by rw [n4]; exact u3) fun c => by have := hlen c; have := hs c; omega
    refine ⟨nl', d6', d7', d8', ?_, fun c => ?_, u⟩
    · have l1 : (look n1 a).length < 100000 := by rw [k1]; have := hs a; omega
      have l3 : (look n3 b).length < 100000 := by
        rw [k3, k2, k1]
        have := hs b
        rw [List.length_append]
        split <;> simp <;> omega
      rw [← e, List.map_cons, x_forCons]
      have g : gTp (gMore (gNm 6) (gMore (gNm 7) gNone)) (lineD nd (a, b)) ⟨rE L st d2 pre d5 d6 d7 d8 d9, OM nd kk pre S nl⟩ = some ⟨rE L st d2 pre d5 (some (.sh (nd a))) (some (.sh (nd b))) d8 d9, OM nd kk pre S nl⟩ := rfl
      have s0 : law_e_reach_1b_0 ⟨rE L st d2 pre d5 (some (.sh (nd a))) (some (.sh (nd b))) d8 d9, OM nd kk pre S nl⟩ = .nx ⟨rE L st d2 pre d5 (some (.sh (nd a))) (some (.sh (nd b))) (some (.sh (.cell (pre.length + 2 + i)))) d9, OM nd kk pre S n1⟩ := by
        rw [law_e_reach_1b_0, x_set, e1]; rfl
      have s1 : law_e_reach_1b_1 ⟨rE L st d2 pre d5 (some (.sh (nd a))) (some (.sh (nd b))) (some (.sh (.cell (pre.length + 2 + i)))) d9, OM nd kk pre S n1⟩ = .nx ⟨rE L st d2 pre d5 (some (.sh (nd a))) (some (.sh (nd b))) (some (.sh (.cell (pre.length + 2 + i)))) d9, OM nd kk pre S (n1.set i (a, look n1 a ++ [b]))⟩ := by
        rw [← e3]
        simp [law_e_reach_1b_1, e2, nbCell, l1]
      have s2 : law_e_reach_1b_2 ⟨rE L st d2 pre d5 (some (.sh (nd a))) (some (.sh (nd b))) (some (.sh (.cell (pre.length + 2 + i)))) d9, OM nd kk pre S (n1.set i (a, look n1 a ++ [b]))⟩ = .nx ⟨rE L st d2 pre d5 (some (.sh (nd a))) (some (.sh (nd b))) (some (.sh (.cell (pre.length + 2 + j)))) d9, OM nd kk pre S n3⟩ := by
        rw [law_e_reach_1b_2, x_set, e4]; rfl
      have s3 : law_e_reach_1b_3 ⟨rE L st d2 pre d5 (some (.sh (nd a))) (some (.sh (nd b))) (some (.sh (.cell (pre.length + 2 + j)))) d9, OM nd kk pre S n3⟩ = .nx ⟨rE L st d2 pre d5 (some (.sh (nd a))) (some (.sh (nd b))) (some (.sh (.cell (pre.length + 2 + j)))) d9, OM nd kk pre S (n3.set j (b, look n3 b ++ [a]))⟩ := by
        rw [← e6]
        simp [law_e_reach_1b_3, e5, nbCell, l3]
      simp only [g, law_e_reach_1b, x_seq, s0, s1, s2, s3, o_nx]
    · rw [k, all, List.append_assoc]
      rfl
theorem found_some (S : List (α × Int)) (b : α) (H : Things nd kk) : (kvGet (foundK kk S) (kk b)).isSome = decide (b ∈ ks S) := by
  induction S with
  | nil => simp [foundK, kvGet]
  | cons p S ih =>
    by_cases h : p.1 = b
    · simp [foundK, kvGet, h]
    · have h' : ¬ kk p.1 = kk b := fun e => h (H.inj _ _ e)
      have e1 : kvGet (foundK kk (p :: S)) (kk b) = kvGet (foundK kk S) (kk b) := by simp [foundK, kvGet, h']
      have h2 : ¬ b = p.1 := fun e => h e.symm
      have e2 : b ∈ ks (p :: S) ↔ b ∈ ks S := by
        show b ∈ p.1 :: ks S ↔ _
        rw [List.mem_cons]
        exact ⟨fun z => z.elim (fun z => absurd z h2) id, .inr⟩
      rw [e1, ih]
      exact decide_eq_decide.mpr e2.symm
theorem foundK_len (S : List (α × Int)) : (foundK kk S).length = S.length := by simp [foundK]
theorem foundK_app (S : List (α × Int)) (b : α) (t : Int) : foundK kk (S ++ [(b, t)]) = foundK kk S ++ [(kk b, .int t)] := by simp [foundK]
include H in
theorem vis_one (L : D) (st d5 d6 d8 : Option Vl) (t : Int) (pre : List Cell) (nl : List (α × List α)) (S : List (α × Int)) (w : List α) (b : α) (hS : S.length < 100000) (hw : w.length < 100000) :
    law_e_reach_2b_1bb ⟨rE L st (some (.sh (.int t))) pre d5 d6 (some (.sh (nd b))) d8 (some (.ow (w.map nd))), OM nd kk pre S nl⟩ = .nx ⟨rE L st (some (.sh (.int t))) pre d5 d6 (some (.sh (nd b))) d8 (some (.ow ((visit t (S, w) b).2.map nd))), OM nd kk pre (visit t (S, w) b).1 nl⟩ := by
  have f := found_some S b H
  by_cases c : b ∈ ks S
  · rw [decide_eq_true c] at f
    have e : visit t (S, w) b = (S, w) := if_pos c
    obtain ⟨v, hv⟩ := Option.isSome_iff_exists.mp f
    rw [e]
    simp [law_e_reach_2b_1bb, H.kt, om_found, hv]
  · rw [decide_eq_false c] at f
    have e : visit t (S, w) b = (S ++ [(b, t + 1)], w ++ [b]) := if_neg c
    have g : kvGet (foundK kk S) (kk b) = none := Option.isNone_iff_eq_none.mp (by rw [← Option.not_isSome, f]; rfl)
    have p := put_new (foundK kk S) (kk b) (.int (t + 1)) g
    rw [← foundK_app] at p
    rw [e]
    simp [law_e_reach_2b_1bb, law_e_reach_2b_1bbt_0, law_e_reach_2b_1bbt_1, H.kt, om_found, g, foundK_len, hS, hw, p, om_setF]
section
variable (L : D) (st d5 d8 : Option Vl) (t : Int) (pre : List Cell) (nl : List (α × List α)) (lines : List (α × α)) (start : α) (hL : lines.length + 2 < 100000)
theorem Fd.small {S : List (α × Int)} (F : Fd lines start S) : S.length ≤ lines.length + 1 := by
  have h1 := F.cnt
  have h2 : within lines (ks S) ≤ lines.length := List.countP_le_length
  simp only [List.length_map] at h1
  omega
theorem visit_len (S : List (α × Int)) (w : List α) (b : α) (h : w.length ≤ S.length) : (visit t (S, w) b).2.length ≤ (visit t (S, w) b).1.length := by
  unfold visit
  split
  · exact h
  · simp; omega
theorem visits_len (bs : List α) : ∀ (S : List (α × Int)) (w : List α), w.length ≤ S.length → (visits t (S, w) bs).2.length ≤ (visits t (S, w) bs).1.length := by
  induction bs with
  | nil => intro S w h; exact h
  | cons b bs ih => intro S w h; exact ih _ _ (visit_len t S w b h)
theorem visit_fd {S : List (α × Int)} {w : List α} {a b : α} (F : Fd lines start S) (ha : a ∈ ks S) (hb : b ∈ nbrs lines a) : Fd lines start (visit t (S, w) b).1 ∧ a ∈ ks (visit t (S, w) b).1 := by
  unfold visit
  split
  · exact ⟨F, ha⟩
  · rename_i c
    exact ⟨F.add ha c hb, by rw [ks_app]; exact List.mem_append_left _ ha⟩
include H hL in
theorem vis_cell (d6 : Option Vl) (i : Nat) (a : α) (xs : List α) (hi : nl[i]? = some (a, xs)) : ∀ (ys : List α) (j k : Nat) (S : List (α × Int)) (w : List α) (d7 : Option Vl), ys.length < k → xs.drop j = ys → Fd lines start S → a ∈ ks S → (∀ b ∈ ys, b ∈ nbrs lines a) → w.length ≤ S.length →
    ∃ d7', forCell (gNm 7) law_e_reach_2b_1bb (pre.length + 2 + i) j k ⟨rE L st (some (.sh (.int t))) pre d5 d6 d7 d8 (some (.ow (w.map nd))), OM nd kk pre S nl⟩ = .nx ⟨rE L st (some (.sh (.int t))) pre d5 d6 d7' d8 (some (.ow ((visits t (S, w) ys).2.map nd))), OM nd kk pre (visits t (S, w) ys).1 nl⟩
  | [], j, k, S, w, d7, hk, hd, F, ha, hb, hw => by
    obtain ⟨k, rfl⟩ : ∃ k', k = k' + 1 := ⟨k - 1, by simp at hk; omega⟩
    have hj : xs[j]? = none := by rw [List.getElem?_eq_none_iff]; exact List.drop_eq_nil_iff.mp hd
    have := om_cell (nd := nd) (kk := kk) pre S nl i _ hi
    exact ⟨d7, by rw [x_forCell]; simp [this, nbCell, hj, visits]⟩
  | b :: ys, j, k, S, w, d7, hk, hd, F, ha, hb, hw => by
    obtain ⟨k, rfl⟩ : ∃ k', k = k' + 1 := ⟨k - 1, by simp at hk; omega⟩
    have hj : xs[j]? = some b := by
      have : (xs.drop j)[0]? = some b := by rw [hd]; rfl
      simpa using this
    have hd' : xs.drop (j + 1) = ys := by rw [← List.drop_drop, hd]; rfl
    have hs := F.small
    have e1 := vis_one H L st d5 d6 d8 t pre nl S w b (by omega) (by omega)
    obtain ⟨F1, a1⟩ := visit_fd (t := t) (w := w) lines start F ha (hb b (by simp))
    obtain ⟨d7', e⟩ := vis_cell d6 i a xs hi ys (j + 1) k (visit t (S, w) b).1 (visit t (S, w) b).2 (some (.sh (nd b))) (by simp at hk; omega) hd' F1 a1 (fun c hc => hb c (by simp [hc])) (visit_len t S w b hw)
    refine ⟨d7', ?_⟩
    have oc := om_cell (nd := nd) (kk := kk) pre S nl i _ hi
    have g : gNm 7 (nd b) ⟨rE L st (some (.sh (.int t))) pre d5 d6 d7 d8 (some (.ow (w.map nd))), OM nd kk pre S nl⟩ = some ⟨rE L st (some (.sh (.int t))) pre d5 d6 (some (.sh (nd b))) d8 (some (.ow (w.map nd))), OM nd kk pre S nl⟩ := rfl
    rw [x_forCell]
    simp only [oc, nbCell, List.getElem?_map, hj, Option.map_some, g, e1, e]
    rfl
include H hL in
theorem rim_one (hlk : ∀ c, look nl c = nbrs lines c) (hdeg : ∀ c, (nbrs lines c).length < fuel) (a : α) (S : List (α × Int)) (w : List α) (d7 : Option Vl) (F : Fd lines start S) (ha : a ∈ ks S) (hw : w.length ≤ S.length) :
    ∃ d7', law_e_reach_2b_1b ⟨rE L st (some (.sh (.int t))) pre d5 (some (.sh (nd a))) d7 d8 (some (.ow (w.map nd))), OM nd kk pre S nl⟩ = .nx ⟨rE L st (some (.sh (.int t))) pre d5 (some (.sh (nd a))) d7' d8 (some (.ow ((visits t (S, w) (nbrs lines a)).2.map nd))), OM nd kk pre (visits t (S, w) (nbrs lines a)).1 nl⟩ := by
  rcases near_cases H nl (pre.length + 2) a with ⟨x, y, z⟩ | ⟨i, x, y⟩
  · rw [hlk] at y
    refine ⟨d7, ?_⟩
    rw [y]
    simp [law_e_reach_2b_1b, H.kt, om_near, x, visits]
  · rw [hlk] at y
    obtain ⟨d7', e⟩ := vis_cell H L st d5 d8 t pre nl lines start hL (some (.sh (nd a))) i a _ y (nbrs lines a) 0 fuel S w d7 (hdeg a) rfl F ha (fun b h => h) hw
    refine ⟨d7', ?_⟩
    rw [← e]
    simp [law_e_reach_2b_1b, H.kt, om_near, x]
include H hL in
theorem rim_go (hlk : ∀ c, look nl c = nbrs lines c) (hdeg : ∀ c, (nbrs lines c).length < fuel) : ∀ (rim : List α) (S : List (α × Int)) (w : List α) (d6 d7 : Option Vl), Fd lines start S → (∀ a ∈ rim, a ∈ ks S) → w.length ≤ S.length →
    ∃ d6' d7', forGo (gNm 6) law_e_reach_2b_1b (rim.map nd) ⟨rE L st (some (.sh (.int t))) pre d5 d6 d7 d8 (some (.ow (w.map nd))), OM nd kk pre S nl⟩ = .nx ⟨rE L st (some (.sh (.int t))) pre d5 d6' d7' d8 (some (.ow ((expand (nbrs lines) t (S, w) rim).2.map nd))), OM nd kk pre (expand (nbrs lines) t (S, w) rim).1 nl⟩
  | [], S, w, d6, d7, F, hr, hw => ⟨d6, d7, rfl⟩
  | a :: rim, S, w, d6, d7, F, hr, hw => by
    obtain ⟨d7', e1⟩ := rim_one H L st d5 d8 t pre nl lines start hL hlk hdeg a S w d7 F (hr a (by simp)) hw
    obtain ⟨F1, G1, _⟩ := visits_ok (t := t) (nbrs lines a) S w F (hr a (by simp)) fun b h => h
    obtain ⟨d6', d7'', e2⟩ := rim_go hlk hdeg rim (visits t (S, w) (nbrs lines a)).1 (visits t (S, w) (nbrs lines a)).2 (some (.sh (nd a))) d7' F1 (fun c hc => G1.sub c (hr c (by simp [hc]))) (visits_len t _ S w hw)
    refine ⟨d6', d7'', ?_⟩
    have g : gNm 6 (nd a) ⟨rE L st (some (.sh (.int t))) pre d5 d6 d7 d8 (some (.ow (w.map nd))), OM nd kk pre S nl⟩ = some ⟨rE L st (some (.sh (.int t))) pre d5 (some (.sh (nd a))) d7 d8 (some (.ow (w.map nd))), OM nd kk pre S nl⟩ := rfl
    rw [List.map_cons, x_forCons, g]
    simp only [e1]
    exact e2
end
include H in
theorem turns_go (L : D) (st d8 : Option Vl) (pre : List Cell) (nl : List (α × List α)) (lines : List (α × α)) (start : α) (hL : lines.length + 2 < 100000) (hlk : ∀ c, look nl c = nbrs lines c) (hdeg : ∀ c, (nbrs lines c).length < fuel) :
    ∀ (n : Nat) (t : Int) (S : List (α × Int)) (rim : List α) (d2 d5 d6 d7 d9 : Option Vl), (d5 = some (.sh (.lst (rim.map nd))) ∨ d5 = some (.ow (rim.map nd))) → Fd lines start S → (∀ a ∈ rim, a ∈ ks S) →
    ∃ d2' d5' d6' d7' d9', forGo (gNm 2) law_e_reach_2b (rangeD t n) ⟨rE L st d2 pre d5 d6 d7 d8 d9, OM nd kk pre S nl⟩ = .nx ⟨rE L st d2' pre d5' d6' d7' d8 d9', OM nd kk pre (bfs (nbrs lines) n t S rim) nl⟩
  | 0, t, S, rim, d2, d5, d6, d7, d9, _, _, _ => ⟨_, _, _, _, _, rfl⟩
  | n + 1, t, S, rim, d2, d5, d6, d7, d9, h5, F, hr => by
    obtain ⟨d6', d7', e1⟩ := rim_go H L st (some (.sh (.lst (rim.map nd)))) d8 t pre nl lines start hL hlk hdeg rim S [] d6 d7 F hr (Nat.zero_le _)
    obtain ⟨F1, G1, _⟩ := expand_ok (t := t) rim S [] F hr
    obtain ⟨S1, w1, ee⟩ : ∃ S1 w1, expand (nbrs lines) t (S, []) rim = (S1, w1) := ⟨_, _, rfl⟩
    rw [ee] at e1 F1 G1
    simp only at F1 G1
    rw [Lib.rangeD_succ, x_forCons]
    have g : gNm 2 (.int t) ⟨rE L st d2 pre d5 d6 d7 d8 d9, OM nd kk pre S nl⟩ = some ⟨rE L st (some (.sh (.int t))) pre d5 d6 d7 d8 d9, OM nd kk pre S nl⟩ := rfl
    have s0 : law_e_reach_2b_0 ⟨rE L st (some (.sh (.int t))) pre d5 d6 d7 d8 d9, OM nd kk pre S nl⟩ = .nx ⟨rE L st (some (.sh (.int t))) pre d5 d6 d7 d8 (some (.ow [])), OM nd kk pre S nl⟩ := by simp [law_e_reach_2b_0]
    have s1 : law_e_reach_2b_1 ⟨rE L st (some (.sh (.int t))) pre d5 d6 d7 d8 (some (.ow [])), OM nd kk pre S nl⟩ = .nx ⟨rE L st (some (.sh (.int t))) pre (some (.sh (.lst (rim.map nd)))) d6' d7' d8 (some (.ow (w1.map nd))), OM nd kk pre S1 nl⟩ := by
      rw [List.map_nil] at e1
      rw [← e1]
      rcases h5 with rfl | rfl <;> simp [law_e_reach_2b_1]
    have s2 : law_e_reach_2b_2 ⟨rE L st (some (.sh (.int t))) pre (some (.sh (.lst (rim.map nd)))) d6' d7' d8 (some (.ow (w1.map nd))), OM nd kk pre S1 nl⟩ = .nx ⟨rE L st (some (.sh (.int t))) pre (some (.sh (.lst (w1.map nd)))) d6' d7' d8 (some (.sh (.lst (w1.map nd)))), OM nd kk pre S1 nl⟩ := by simp [law_e_reach_2b_2]
    have step : law_e_reach_2b ⟨rE L st (some (.sh (.int t))) pre d5 d6 d7 d8 d9, OM nd kk pre S nl⟩ = law_e_reach_2b_3 ⟨rE L st (some (.sh (.int t))) pre (some (.sh (.lst (w1.map nd)))) d6' d7' d8 (some (.sh (.lst (w1.map nd)))), OM nd kk pre S1 nl⟩ := by
      simp only [law_e_reach_2b, x_seq, s0, s1, s2, o_nx]
    unfold bfs
    rw [ee]
    simp only [g, step]
    by_cases hw : w1 = []
    · subst hw
      have s3 : law_e_reach_2b_3 ⟨rE L st (some (.sh (.int t))) pre (some (.sh (.lst (([] : List α).map nd)))) d6' d7' d8 (some (.sh (.lst (([] : List α).map nd)))), OM nd kk pre S1 nl⟩ = .bk ⟨rE L st (some (.sh (.int t))) pre (some (.sh (.lst (([] : List α).map nd)))) d6' d7' d8 (some (.sh (.lst (([] : List α).map nd)))), OM nd kk pre S1 nl⟩ := by simp [law_e_reach_2b_3]
      rw [s3]
      exact ⟨_, _, _, _, _, rfl⟩
    · have s3 : law_e_reach_2b_3 ⟨rE L st (some (.sh (.int t))) pre (some (.sh (.lst (w1.map nd)))) d6' d7' d8 (some (.sh (.lst (w1.map nd)))), OM nd kk pre S1 nl⟩ = .nx ⟨rE L st (some (.sh (.int t))) pre (some (.sh (.lst (w1.map nd)))) d6' d7' d8 (some (.sh (.lst (w1.map nd)))), OM nd kk pre S1 nl⟩ := by simp [law_e_reach_2b_3, hw]
      obtain ⟨a1, a2, a3, a4, a5, e⟩ := turns_go L st d8 pre nl lines start hL hlk hdeg n (t + 1) S1 w1 (some (.sh (.int t))) (some (.sh (.lst (w1.map nd)))) d6' d7' (some (.sh (.lst (w1.map nd)))) (.inl rfl) F1 fun a ha => (G1.wsub a ha).elim (fun z => by simp at z) id
      refine ⟨a1, a2, a3, a4, a5, ?_⟩
      rw [if_neg hw, ← e, s3]
theorem nbrs_len (lines : List (α × α)) (c : α) : (nbrs lines c).length ≤ 2 * lines.length := by
  induction lines with
  | nil => simp [nbrs]
  | cons l lines ih =>
    have : nbrs (l :: lines) c = ((if c = l.1 then [l.2] else []) ++ (if c = l.2 then [l.1] else [])) ++ nbrs lines c := rfl
    rw [this, List.length_append, List.length_append, List.length_cons]
    split <;> split <;> simp <;> omega
include H in
/-- all that is reached, and no more -/
theorem reach_ok (lines : List (α × α)) (start : α) (hl : lines.length < 20000) (pre : List Cell) : ∃ S nl, F_law_e_reach [.lst (lines.map (lineD nd)), nd start] pre = .ok (.sh (.cell (pre.length + 1))) (OM nd kk pre S nl) ∧ ∀ b, b ∈ ks S ↔ Rch lines start b := by
  obtain ⟨R, hR⟩ : ∃ R, R = lines.map (lineD nd) := ⟨_, rfl⟩
  obtain ⟨nl, d6, d7, d8, e1, k1, _⟩ := build_go H (.lst R) (some (.sh (nd start))) none (some (.ow [nd start])) none pre [(start, 0)] lines [] none none none (by simp; omega) (by simp) fun c => by simp [look]; omega
  have hlk : ∀ c, look nl c = nbrs lines c := fun c => by rw [k1]; rfl
  obtain ⟨d2', d5', d6', d7', d9', e2⟩ := turns_go H (.lst R) (some (.sh (nd start))) d8 pre nl lines start (by omega) hlk (fun c => Nat.lt_of_le_of_lt (nbrs_len lines c) (fuel_big (Nat.lt_of_lt_of_le (show 2 * lines.length < 2 ^ 20 by omega) (Nat.pow_le_pow_right (by decide) (by decide))))) (lines.length + 1) 0 [(start, 0)] [start] none (some (.ow [nd start])) d6 d7 none (.inr rfl) ⟨by simp, by simp, fun a ha => by simp at ha; subst ha; exact .refl, by simp⟩ (by simp)
  refine ⟨_, nl, ?_, bfs_iff lines start⟩
  have hlen : R.length = lines.length := by rw [hR, List.length_map]
  rw [← hR] at e1 ⊢
  have e0 : F_law_e_reach [.lst R, nd start] pre = ((sSeq law_e_reach_0 (sSeq law_e_reach_1 (sSeq law_e_reach_2 law_e_reach_3))) ⟨[some (.sh (.lst R)), some (.sh (nd start)), none, none, none, none, none, none, none, none], pre⟩).toF := rfl
  have s0 : law_e_reach_0 ⟨[some (.sh (.lst R)), some (.sh (nd start)), none, none, none, none, none, none, none, none], pre⟩ = .nx ⟨rE (.lst R) (some (.sh (nd start))) none pre (some (.ow [nd start])) none none none none, OM nd kk pre [(start, 0)] []⟩ := by
    simp [law_e_reach_0, H.kt, OM, nearK, foundK]
  have s1 : law_e_reach_1 ⟨rE (.lst R) (some (.sh (nd start))) none pre (some (.ow [nd start])) none none none none, OM nd kk pre [(start, 0)] []⟩ = .nx ⟨rE (.lst R) (some (.sh (nd start))) none pre (some (.ow [nd start])) d6 d7 d8 none, OM nd kk pre [(start, 0)] nl⟩ := by
    rw [← e1]
    simp [law_e_reach_1]
  have s2 : law_e_reach_2 ⟨rE (.lst R) (some (.sh (nd start))) none pre (some (.ow [nd start])) d6 d7 d8 none, OM nd kk pre [(start, 0)] nl⟩ = .nx ⟨rE (.lst R) (some (.sh (nd start))) d2' pre d5' d6' d7' d8 d9', OM nd kk pre (bfs (nbrs lines) (lines.length + 1) 0 [(start, 0)] [start]) nl⟩ := by
    rw [← e2]
    have : ((lines.length : Int) + 1).toNat = lines.length + 1 := by omega
    simp [law_e_reach_2, hlen, this, show (lines.length : Int) + 1 < 4000000000000000000 by omega, show (-4000000000000000000 : Int) ≤ (lines.length : Int) + 1 by omega]
  rw [e0]
  simp only [x_seq, s0, s1, s2, o_nx]
  simp [law_e_reach_3]
end
end Mini.LibR

set_option linter.all false
set_option maxRecDepth 100000
/-! PyDraw: rows drawn; what check_lates raises for two rows. -/
namespace Mini.LibT
open Mini Mini.LibR PySem
open Mini.Lib (F_law_source F_law_pick F_law_within F_law_one)
theorem Src.more {pre om rest : List Cell} (h : Src pre om rest) (r : List Cell) : Src pre (om ++ r) (rest ++ r) := by
  obtain ⟨l, n, s, t, rfl, hl⟩ := h
  exact ⟨l, n, s, t, by simp [srcM], hl⟩
theorem Src.tabs {pre om rest : List Cell} (h : Src pre om rest) (hr : tabsOf rest = []) : tabsOf om = tabsOf pre := by
  obtain ⟨l, n, s, t, rfl, hl⟩ := h
  simp [srcM, tabs_app, hr]
theorem pick1 {pre om rest : List Cell} (h : Src pre om rest) {m : Int} (h1 : 1 ≤ m) (h2 : m ≤ 1000000) : ∃ r om', F_law_pick [.cell (pre.length + 1), .int m] om = .ok (.sh (.int r)) om' ∧ Src pre om' rest ∧ 0 ≤ r ∧ r < m := by
  obtain ⟨r, om', e, h', r0, r1, r2⟩ := pick_ok h (m := m) (pow9000 (k := 30) (by omega))
  refine ⟨r, om', e, h', r0, ?_⟩
  by_cases c : 2 ≤ m
  · exact r1 c
  · have := r2 (by omega); omega
theorem ints_of {α : Type} {P : Int → Prop} : ∀ {ys : List α} {ds : List D}, ds.length = ys.length → (∀ (i : Nat) (y : α) (d : D), ys[i]? = some y → ds[i]? = some d → ∃ x, d = .int x ∧ P x) → ∃ a : List Int, ds = intsD a ∧ a.length = ys.length ∧ ∀ x ∈ a, P x
  | [], [], _, _ => ⟨[], rfl, rfl, fun x hx => by simp at hx⟩
  | y :: ys, d :: ds, hl, h => by
    obtain ⟨x, rfl, hx⟩ := h 0 y d rfl rfl
    obtain ⟨a, rfl, h2, h3⟩ := ints_of (ys := ys) (ds := ds) (by simpa using hl) fun i y d h1 h2 => h (i + 1) y d (by simpa using h1) (by simpa using h2)
    exact ⟨x :: a, rfl, by simp [h2], fun z hz => by
      rcases List.mem_cons.mp hz with rfl | hz
      · exact hx
      · exact h3 z hz⟩
section
variable {pre om rest : List Cell}
abbrev sD (pre : List Cell) : Option Vl := some (.sh (.cell (pre.length + 1)))
theorem far_n' (n : Nat) (h : n ≤ 1000) : (-4000000000000000000 : Int) ≤ (n : Int) ∧ (n : Int) < 4000000000000000000 := by omega
/-- a row of numbers below m, drawn -/
theorem draw_row (h : Src pre om rest) (n : Nat) (hn : n ≤ 100) (m : Int) (hm : 1 ≤ m) (hm2 : m ≤ 1000000) (env : List (Option Vl)) (e : EvE) (k : Nat) (it : EvI) (hit : ∀ om, it ⟨env, om⟩ = .ok (rangeD 0 n) ⟨env, om⟩) (hc : calmSlots env [k] = true) (hk : k < env.length) (hr : restore env (wipeEnv env [k]) [k] = env)
    (he : ∀ (x : D) (om : List Cell), e ⟨(wipeEnv env [k]).set k (some (.sh x)), om⟩ = (F_law_pick [.cell (pre.length + 1), .int m] om).toR ((wipeEnv env [k]).set k (some (.sh x)))) :
    ∃ (a : List Int) (om' : List Cell), eComp it (gNm k) tYes e [k] ⟨env, om⟩ = .ok (.ow (intsD a)) ⟨env, om'⟩ ∧ Src pre om' rest ∧ a.length = n ∧ ∀ x ∈ a, 0 ≤ x ∧ x < m := by
  obtain ⟨ds, om', e1, h', l, hv⟩ := comp_draw (it := it) (g := gNm k) (e := e) (vs := [k]) (env := env) (om := om) (fun j : Nat => D.int (0 + (j : Int))) (fun _ d => ∃ x, d = .int x ∧ 0 ≤ x ∧ x < m) (fun om => Src pre om rest) (List.range n) (hit om) h hc (by simp; omega) (fun y _ om h => by
    obtain ⟨r, om', e1, h', r0, r1⟩ := pick1 h hm hm2
    refine ⟨⟨(wipeEnv env [k]).set k (some (.sh (.int (0 + (y : Int))))), om⟩, .sh (.int r), ⟨(wipeEnv env [k]).set k (some (.sh (.int (0 + (y : Int))))), om'⟩, ?_, ?_, ⟨r, rfl, r0, r1⟩, ?_, h'⟩
    · simp [hk]
    · rw [he, e1]; rfl
    · simp) hr
  obtain ⟨a, rfl, h2, h3⟩ := ints_of (P := fun x => 0 ≤ x ∧ x < m) l hv
  exact ⟨a, om', e1, h', by simpa using h2, h3⟩
theorem one_int (h : Src pre om rest) {xs : List Int} (hx : xs ≠ []) (hl : xs.length ≤ 1000) : ∃ x om', F_law_one [.cell (pre.length + 1), .lst (intsD xs)] om = .ok (.sh (.int x)) om' ∧ Src pre om' rest ∧ x ∈ xs := by
  obtain ⟨d, om', e, h', hd⟩ := one_ok h (xs := intsD xs) (by simpa using hx) (by simp only [List.length_map, many_n]; omega)
  obtain ⟨x, hx, rfl⟩ := List.mem_map.mp hd
  exact ⟨x, om', e, h', hx⟩
theorem it_n (n : Nat) (hn : n ≤ 100) (i : Nat) (env : List (Option Vl)) (om : List Cell) (h : env[i]? = some (some (.sh (.int n)))) : iRange1 (aCons (eVar i) aNil) ⟨env, om⟩ = .ok (rangeD 0 n) ⟨env, om⟩ := by
  have := far_n' n (by omega)
  simp [h, this.1, this.2]
end
end Mini.LibT
namespace Mini.LibR
open Mini PySem
theorem tmRow_none {r : List Int} (h : r.length ≤ 8) (h2 : ∀ x ∈ r, x ≤ 60) : tmRow r = none := by
  unfold tmRow
  rw [if_neg (by omega), List.findSome?_eq_none_iff]
  intro x hx
  rw [if_neg (by have := h2 x hx; omega)]
theorem tmRow_some {r : List Int} (h : 8 < r.length ∨ ∃ x ∈ r, 60 < x) : ∃ z, tmRow r = some (tooMany z) := by
  unfold tmRow
  by_cases c : 8 < r.length
  · exact ⟨_, if_pos c⟩
  · rw [if_neg c]
    obtain ⟨x, hx, h60⟩ := h.resolve_left c
    cases e : r.findSome? fun x => if 60 < x then some (tooMany "lateness") else none with
    | none =>
      have := List.findSome?_eq_none_iff.mp e x hx
      rw [if_pos h60] at this
      cases this
    | some v =>
      obtain ⟨y, hy, ey⟩ := List.exists_of_findSome?_eq_some e
      split at ey
      · cases ey; exact ⟨_, rfl⟩
      · cases ey
theorem tm_cases (r : List Int) : tmRow r = none ∧ r.length ≤ 8 ∧ (∀ x ∈ r, x ≤ 60) ∨ ∃ z, tmRow r = some (tooMany z) := by
  by_cases h : 8 < r.length ∨ ∃ x ∈ r, 60 < x
  · exact .inr (tmRow_some h)
  · rw [not_or] at h
    have h2 : ∀ x ∈ r, x ≤ 60 := fun x hx => by
      have : ¬ 60 < x := fun z => h.2 ⟨x, hx, z⟩
      omega
    exact .inl ⟨tmRow_none (by omega) h2, by omega, h2⟩
theorem err_tm {a b : List Int} (l : Int) (h : (8 < a.length ∨ ∃ x ∈ a, 60 < x) ∨ (8 < b.length ∨ ∃ x ∈ b, 60 < x)) : ∃ z, latesErr [a, b] l = some (tooMany z) := by
  rcases tm_cases a with ⟨e, l8, l60⟩ | ⟨z, e⟩
  · have h := h.resolve_left (fun q => by
      rcases q with q | ⟨x, hx, q⟩
      · omega
      · have := l60 x hx; omega)
    obtain ⟨z, e2⟩ := tmRow_some h
    exact ⟨z, by simp [latesErr, e, e2]⟩
  · exact ⟨z, by simp [latesErr, e]⟩
/-- let as to bounds -/
def Fine (a : List Int) : Prop := a.length ≤ 8 ∧ ∀ x ∈ a, x ≤ 60
theorem err_size {a b : List Int} (l : Int) (ha : Fine a) (hb : Fine b) (h : a = [] ∨ a.length ≠ b.length) : latesErr [a, b] l = some (bad "size") := by
  have e1 := tmRow_none ha.1 ha.2
  have e2 := tmRow_none hb.1 hb.2
  by_cases c : a = []
  · subst c; simp [latesErr, e1, e2]
  · have h := h.resolve_left c
    simp [latesErr, e1, e2, c, show ¬ b.length = a.length by omega]
theorem low_some {l : Int} {a : List Int} (h : ∃ x ∈ a, x < l) : lowRow l a = some (bad "below") := by
  obtain ⟨x, hx, h⟩ := h
  exact if_pos (List.any_eq_true.mpr ⟨x, hx, decide_eq_true h⟩)
theorem low_none {l : Int} {a : List Int} (h : ∀ x ∈ a, l ≤ x) : lowRow l a = none := by
  refine if_neg fun c => ?_
  obtain ⟨x, hx, e⟩ := List.any_eq_true.mp c
  have := h x hx
  have := of_decide_eq_true e
  omega
theorem err_low {a b : List Int} (l : Int) (ha : Fine a) (hb : Fine b) (h0 : a ≠ []) (hl : a.length = b.length) (h : (∃ x ∈ a, x < l) ∨ ∃ x ∈ b, x < l) : latesErr [a, b] l = some (bad "below") := by
  have e1 := tmRow_none ha.1 ha.2
  have e2 := tmRow_none hb.1 hb.2
  by_cases c : ∃ x ∈ a, x < l
  · have := low_some c
    simp [latesErr, e1, e2, h0, hl, this]
  · have e3 : lowRow l a = none := low_none fun x hx => by
      have : ¬ x < l := fun z => c ⟨x, hx, z⟩
      omega
    have e4 := low_some (h.resolve_left c)
    simp [latesErr, e1, e2, h0, hl, e3, e4]
theorem err_none {a b : List Int} (l : Int) (ha : Fine a) (hb : Fine b) (h0 : a ≠ []) (hl : a.length = b.length) (la : ∀ x ∈ a, l ≤ x) (lb : ∀ x ∈ b, l ≤ x) : latesErr [a, b] l = none := by
  simp [latesErr, tmRow_none ha.1 ha.2, tmRow_none hb.1 hb.2, h0, hl, low_none la, low_none lb]
theorem none_err {a b : List Int} (h : latesErr [a, b] 0 = none) : Fine a ∧ Fine b ∧ a ≠ [] ∧ a.length = b.length ∧ (∀ x ∈ a, 0 ≤ x) ∧ ∀ x ∈ b, 0 ≤ x := by
  rcases tm_cases a with ⟨e1, l1, m1⟩ | ⟨z, e⟩
  · rcases tm_cases b with ⟨e2, l2, m2⟩ | ⟨z, e⟩
    · by_cases c : a = [] ∨ a.length ≠ b.length
      · rw [err_size 0 ⟨l1, m1⟩ ⟨l2, m2⟩ c] at h; cases h
      · rw [not_or] at c
        have hl : a.length = b.length := by omega
        by_cases d : (∃ x ∈ a, x < 0) ∨ ∃ x ∈ b, x < 0
        · rw [err_low 0 ⟨l1, m1⟩ ⟨l2, m2⟩ c.1 hl d] at h; cases h
        · rw [not_or] at d
          refine ⟨⟨l1, m1⟩, ⟨l2, m2⟩, c.1, hl, fun x hx => ?_, fun x hx => ?_⟩
          · have : ¬ x < 0 := fun z => d.1 ⟨x, hx, z⟩
            omega
          · have : ¬ x < 0 := fun z => d.2 ⟨x, hx, z⟩
            omega
    · simp [latesErr, e1, e] at h
  · simp [latesErr, e] at h
theorem small_shifts {a b : List Int} (ha : ∀ x ∈ a, 0 ≤ x ∧ x ≤ 60) (hb : ∀ x ∈ b, 0 ≤ x ∧ x ≤ 60) : Small (shifts a b) := by
  intro x hx
  obtain ⟨p, hp, rfl⟩ := List.mem_map.mp hx
  have h1 := ha _ (List.of_mem_zip hp).1
  have h2 := hb _ (List.of_mem_zip hp).2
  omega
theorem rows2 (t u : Bool) (a b : List Int) : ([(t, a), (u, b)] : List (Bool × List Int)).map rowD = [sq t (intsD a), sq u (intsD b)] := rfl
theorem check2 (t u : Bool) (a b : List Int) (ha : a.length ≤ 1000) (hb : b.length ≤ 1000) (om : List Cell) : F_check_lates [.lst [sq t (intsD a), sq u (intsD b)], .int 0] om = match latesErr [a, b] 0 with
    | none => .ok (.sh .non) om
    | some e => .ex e om := by
  have := lates_ok [(t, a), (u, b)] (by simp) (fun r hr => by simp at hr; rcases hr with rfl | rfl <;> assumption) 0 om
  rw [rows2] at this
  exact this
theorem shifts_cons {a b : List Int} (h0 : a ≠ []) (hl : a.length = b.length) : ∃ x r, shifts a b = x :: r := by
  cases a with
  | nil => exact absurd rfl h0
  | cons x a => cases b with
    | nil => simp at hl
    | cons y b => exact ⟨x - y, _, rfl⟩
end Mini.LibR

set_option linter.all false
set_option maxRecDepth 100000
/-! PyLibY: the pieces of PyEvY and PyEvZ as simp equations. -/
namespace Mini
open PySem
section
variable {e b c : EvE} {t : EvT} {st : St} {xs : List D} {om : List Cell}
@[simp] theorem x_revT : eRevT e st = (e st).bind fun v s1 => match v.d with
  | .tup xs => .ok (.sh (.tup xs.reverse)) s1
  | _ => .no := (rfl)
@[simp] theorem x_rev : eRev e st = (e st).bind fun v s1 => match v.d with
  | .lst xs => .ok (.ow xs.reverse) s1
  | _ => .no := (rfl)
theorem x_keep : eKeep e st = match e ⟨shareEnv st.env, st.om⟩ with
  | .ok v s1 => if v.d.noLst && s1.om.all Cell.noLst then .ok (.sh v.d) ⟨st.env, s1.om⟩ else .no
  | _ => .no := (rfl)
theorem x_tkeep : tKeep t st = match t ⟨shareEnv st.env, st.om⟩ with
  | .ok b s1 => if s1.om.all Cell.noLst then .ok b ⟨st.env, s1.om⟩ else .no
  | _ => .no := (rfl)
@[simp] theorem share_nil : shareEnv [] = [] := (rfl)
@[simp] theorem share_sh (d : D) (r : List (Option Vl)) : shareEnv (some (.sh d) :: r) = some (.sh d) :: shareEnv r := (rfl)
@[simp] theorem share_ow (xs : List D) (r : List (Option Vl)) : shareEnv (some (.ow xs) :: r) = some (.sh (.lst xs)) :: shareEnv r := (rfl)
@[simp] theorem share_none (r : List (Option Vl)) : shareEnv (none :: r) = none :: shareEnv r := (rfl)
theorem keep_ok {v : Vl} {s1 : St} {E : List (Option Vl)} (hs : shareEnv st.env = E) (h : e ⟨E, st.om⟩ = .ok v s1) (h1 : v.d.noLst = true) (h2 : s1.om.all Cell.noLst = true) : eKeep e st = .ok (.sh v.d) ⟨st.env, s1.om⟩ := by
  subst hs
  rw [x_keep, h]
  simp only [h1, h2, Bool.and_self, if_true]
@[simp] theorem isa_lst_str : (D.lst xs).isA om .str = some false := (rfl)
@[simp] theorem isa_lst_dict : (D.lst xs).isA om .dict = some false := (rfl)
@[simp] theorem isa_lst_tuple : (D.lst xs).isA om .tuple = some false := (rfl)
@[simp] theorem isa_tup_str : (D.tup xs).isA om .str = some false := (rfl)
@[simp] theorem isa_tup_dict : (D.tup xs).isA om .dict = some false := (rfl)
@[simp] theorem isa_tup_list : (D.tup xs).isA om .list = some false := (rfl)
@[simp] theorem x_putAt (j : Nat) (d : D) : putAt j b d st = match st.env[j]? with
  | some (some (.ow _)) => (b st).thenS fun y s2 => (match y.d, s2.env[j]? with
    | .int i, some (some (.ow xs)) => (match ixNat xs.length i with
      | some k => .nx { s2 with env := s2.env.set j (some (.ow (xs.set k d))) }
      | none => .no)
    | _, _ => .no)
  | _ => .no := (rfl)
@[simp] theorem x_ixput2 (i j : Nat) : sIxPut2 i b j c e st = (e st).thenS fun v s1 => match v.d with
  | .tup [d1, d2] => (match putAt i b d1 s1 with
    | .nx s2 => putAt j c d2 s2
    | o => o)
  | _ => .no := (rfl)
@[simp] theorem x_noneV (i : Nat) : tNoneV i st = match st.env[i]? with
  | some (some (.ow _)) => .ok false st
  | some (some (.sh d)) => .ok d.isNon st
  | _ => .no := (rfl)
@[simp] theorem x_zip3 {l : EvA} : iZip3 l st = (l st).bind fun ds s1 => match ds with
  | [.lst xs, .lst ys] => .ok ((xs.zip ys).map fun p => D.tup [p.1, p.2]) s1
  | [.tup xs, .tup ys] => .ok ((xs.zip ys).map fun p => D.tup [p.1, p.2]) s1
  | _ => .no := (rfl)
theorem bi_divmod {i j : Int} (h : j ≠ 0) (h1 : i.natAbs < 1073741824) (h2 : j.natAbs < 1073741824) : bDivmod [.int i, .int j] = some (.sh (.tup [.int (i.fdiv j), .int (i.fmod j)])) := if_pos ⟨h, h1, h2⟩
theorem alike_pyd_ints (a b : Int) : W.alike (D.int a).pyd (D.int b).pyd = true := rfl
/-- sorting numbers, least and greatest of numbers -/
theorem allAlike_ints (xs : List Int) : allAlike (intsD xs) = true := by
  unfold allAlike
  rw [List.all_eq_true]
  intro x hx
  rw [List.all_eq_true]
  intro y hy
  obtain ⟨a, _, rfl⟩ := List.mem_map.mp hx
  obtain ⟨b, _, rfl⟩ := List.mem_map.mp hy
  rfl
theorem noNon_ints (xs : List Int) : (intsD xs).all (fun y => !y.isNon) = true := by
  rw [List.all_eq_true]
  intro x hx
  obtain ⟨a, _, rfl⟩ := List.mem_map.mp hx
  rfl
theorem dmax_int : ∀ (xs : List Int) (x : Int), ∃ m, dmax (.int x) (intsD xs) = .int m ∧ m ∈ x :: xs
  | [], x => ⟨x, rfl, by simp⟩
  | y :: xs, x => by
    show ∃ m, dmax (if D.lt (.int x) (.int y) = true then .int y else .int x) (intsD xs) = .int m ∧ _
    by_cases c : D.lt (.int x) (.int y) = true
    · rw [if_pos c]
      obtain ⟨m, e, h⟩ := dmax_int xs y
      exact ⟨m, e, by simp at h ⊢; rcases h with h | h <;> simp [h]⟩
    · rw [if_neg c]
      obtain ⟨m, e, h⟩ := dmax_int xs x
      exact ⟨m, e, by simp at h ⊢; rcases h with h | h <;> simp [h]⟩
theorem dmin_int : ∀ (xs : List Int) (x : Int), ∃ m, dmin (.int x) (intsD xs) = .int m ∧ m ∈ x :: xs
  | [], x => ⟨x, rfl, by simp⟩
  | y :: xs, x => by
    show ∃ m, dmin (if D.lt (.int y) (.int x) = true then .int y else .int x) (intsD xs) = .int m ∧ _
    by_cases c : D.lt (.int y) (.int x) = true
    · rw [if_pos c]
      obtain ⟨m, e, h⟩ := dmin_int xs y
      exact ⟨m, e, by simp at h ⊢; rcases h with h | h <;> simp [h]⟩
    · rw [if_neg c]
      obtain ⟨m, e, h⟩ := dmin_int xs x
      exact ⟨m, e, by simp at h ⊢; rcases h with h | h <;> simp [h]⟩
theorem bmax_ints {xs : List Int} (h : xs ≠ []) : ∃ m, bMaxL [.lst (intsD xs)] = some (.sh (.int m)) ∧ m ∈ xs := by
  cases xs with
  | nil => exact absurd rfl h
  | cons x xs =>
    obtain ⟨m, e, hm⟩ := dmax_int xs x
    refine ⟨m, ?_, hm⟩
    have c : ((D.lst (intsD (x :: xs))).fine deep && (allAlike (intsD (x :: xs)) && (intsD (x :: xs)).all fun y => !y.isNon)) = true := by
      rw [allAlike_ints, noNon_ints]
      simp only [deep_s, fine_lst, fines_ints, Bool.and_self]
    show (if ((D.lst (intsD (x :: xs))).fine deep && (allAlike (intsD (x :: xs)) && (intsD (x :: xs)).all fun y => !y.isNon)) = true then some (Vl.sh (dmax (.int x) (intsD xs))) else none) = _
    rw [if_pos c, e]
theorem bmin_ints {xs : List Int} (h : xs ≠ []) : ∃ m, bMinL [.lst (intsD xs)] = some (.sh (.int m)) ∧ m ∈ xs := by
  cases xs with
  | nil => exact absurd rfl h
  | cons x xs =>
    obtain ⟨m, e, hm⟩ := dmin_int xs x
    refine ⟨m, ?_, hm⟩
    have c : ((D.lst (intsD (x :: xs))).fine deep && (allAlike (intsD (x :: xs)) && (intsD (x :: xs)).all fun y => !y.isNon)) = true := by
      rw [allAlike_ints, noNon_ints]
      simp only [deep_s, fine_lst, fines_ints, Bool.and_self]
    show (if ((D.lst (intsD (x :: xs))).fine deep && (allAlike (intsD (x :: xs)) && (intsD (x :: xs)).all fun y => !y.isNon)) = true then some (Vl.sh (dmin (.int x) (intsD xs))) else none) = _
    rw [if_pos c, e]
theorem lt_ii (a b : Int) : D.lt (.int a) (.int b) = decide (a < b) := by
  unfold D.lt W.dataLt
  simp only [D.pyd, W.keyToks]
  rw [PyProof.Rows.lex_cons]
  show (decide (a < b) || (!decide (b < a) && false)) = _
  simp
theorem dmax_ge : ∀ (xs : List Int) (x m : Int), dmax (.int x) (intsD xs) = .int m → ∀ y ∈ x :: xs, y ≤ m
  | [], x, m, h, y, hy => by
    simp at hy
    subst hy
    cases h
    exact Int.le_refl _
  | z :: xs, x, m, h, y, hy => by
    have h : dmax (if D.lt (.int x) (.int z) = true then .int z else .int x) (intsD xs) = .int m := h
    rw [lt_ii] at h
    by_cases c : x < z
    · rw [if_pos (decide_eq_true c)] at h
      have := dmax_ge xs z m h
      simp only [List.mem_cons] at hy this
      rcases hy with rfl | rfl | hy
      · exact Int.le_trans (Int.le_of_lt c) (this z (.inl rfl))
      · exact this _ (.inl rfl)
      · exact this y (.inr hy)
    · rw [if_neg (by simpa using c)] at h
      have := dmax_ge xs x m h
      simp only [List.mem_cons] at hy this
      rcases hy with rfl | rfl | hy
      · exact this _ (.inl rfl)
      · exact Int.le_trans (Int.not_lt.mp c) (this x (.inl rfl))
      · exact this y (.inr hy)
theorem bmax_all {xs : List Int} {m : Int} (h : bMaxL [.lst (intsD xs)] = some (.sh (.int m))) : ∀ y ∈ xs, y ≤ m := by
  cases xs with
  | nil => simp
  | cons x xs =>
    have h : (if ((D.lst (intsD (x :: xs))).fine deep && (allAlike (intsD (x :: xs)) && (intsD (x :: xs)).all fun y => !y.isNon)) = true then some (Vl.sh (dmax (.int x) (intsD xs))) else none) = some (.sh (.int m)) := h
    split at h
    · simp only [Option.some.injEq, Vl.sh.injEq] at h
      exact dmax_ge xs x m h
    · cases h
end
end Mini

set_option linter.all false
set_option maxRecDepth 100000
/-! M_k28: the defs of the text as the evaluator's terms (printed by gen.py). -/
namespace Mini.K28
open Mini PySem
abbrev TAB_LIMITS : List (Str × Int) := LibR.TAB_LIMITS

/-- the clauses of _law_fault -/
def CLS : List (Str × Str × Option Str) := [("TooMany", "TooMany", none), ("BadRoutes", "BadRoutes", some "what")]
def SUB (a b : Str) : Bool := decide ((a, b) ∈ ([("TooMany", "TooMany"), ("BadRoutes", "BadRoutes")] : List (Str × Str)))

/-- check_bound(word, number), as the library has it -/
abbrev F_check_bound : Fn := LibR.F_check_bound

/-- check_lates(rows, least), as the library has it -/
abbrev F_check_lates : Fn := LibR.F_check_lates

/-- late_shifts(a, b), as the library has it -/
abbrev F_late_shifts : Fn := LibR.F_late_shifts

/-- zigzag_looks(a, shifts, i, j) : slots a, shifts, i, j, step, looks, times, rest, turn -/
def F_zigzag_looks : Fn := runDef 9
  (sSeq (sSet 4 (eOp oSub (eOp oIx (eVar 1) (eVar 2)) (eOp oIx (eVar 1) (eVar 3)))) (sSeq (sIf (tBl (eOp oEq (eVar 4) (eInt 0))) (sRet (eC .non)) sPass) (sSeq (sGet (gTp (gMore (gNm 6) (gMore (gNm 7) gNone))) (eB bDivmod (aCons (eOp oSub (eInt 0) (eOp oIx (eVar 1) (eVar 2))) (aCons (eVar 4) aNil)))) (sSeq (sIf (tOr (tBl (eOp oNe (eVar 7) (eInt 0))) (tBl (eOp oLt (eVar 6) (eInt 1)))) (sRet (eC .non)) sPass) (sSeq (sSet 5 (eComp (iRange1 (aCons (eOp oAdd (eVar 6) (eInt 1)) aNil)) (gNm 8) tYes (eTup (aCons (eVar 2) (aCons (eOp oAdd (eOp oIx (eVar 0) (eVar 2)) (eOp oMul (eVar 8) (eVar 4))) aNil))) [8])) (sRet (eB bSort (aCons (eOp oAdd (eVar 5) (eComp (iRange2 (aCons (eInt 1) (aCons (eOp oAdd (eVar 6) (eInt 1)) aNil))) (gNm 8) tYes (eTup (aCons (eVar 3) (aCons (eOp oAdd (eOp oIx (eVar 0) (eVar 3)) (eOp oMul (eVar 8) (eVar 4))) aNil))) [8])) aNil))))))))

/-- two_routes(a, b) : slots a, b, shifts, even, found, i, late -/
def F_two_routes : Fn := runDef 7
  (sSeq (sDrop (eCall F_check_lates (aCons (eLst (aCons (eVar 0) (aCons (eVar 1) aNil))) (aCons (eInt 0) aNil)))) (sSeq (sIf (tBl (eOp oNe (eB bLen (aCons (eVar 0) aNil)) (eInt 2))) (sRaise1 "BadRoutes" "what" (eStr "size")) sPass) (sSeq (sSet 2 (eCall F_late_shifts (aCons (eVar 0) (aCons (eVar 1) aNil)))) (sSeq (sSet 3 (eComp (iRange1 (aCons (eInt 2) aNil)) (gNm 5) (tBl (eOp oEq (eOp oIx (eVar 2) (eVar 5)) (eInt 0))) (eTup (aCons (eOp oIx (eVar 0) (eVar 5)) (aCons (eVar 5) aNil))) [5])) (sSeq (sIf (tTru (eVar 3)) (sSeq (sGet (gTp (gMore (gNm 6) (gMore (gNm 5) gNone))) (eB bMinL (aCons (eVar 3) aNil))) (sRet (eLst (aCons (eTup (aCons (eVar 5) (aCons (eVar 6) aNil))) aNil)))) sPass) (sSeq (sSet 4 (eCall F_zigzag_looks (aCons (eVar 0) (aCons (eVar 2) (aCons (eInt 0) (aCons (eInt 1) aNil)))))) (sRet (eIf (tNoneV 4) (eCall F_zigzag_looks (aCons (eVar 0) (aCons (eVar 2) (aCons (eInt 1) (aCons (eInt 0) aNil))))) (eOwn 4)))))))))

/-- route_lag(looks) : slots looks, beats, look -/
def F_route_lag : Fn := runDef 3
  (sSeq (sIf (tNot (tTru (eVar 0))) (sRaise1 "BadRoutes" "what" (eStr "size")) sPass) (sSeq (sSet 1 (eComp (iAny (eVar 0)) (gNm 2) tYes (eOp oIx (eVar 2) (eInt 1)) [2])) (sRet (eTup (aCons (eB bMaxL (aCons (eVar 1) aNil)) (aCons (eOp oAdd (eOp oSub (eB bMaxL (aCons (eVar 1) aNil)) (eB bMinL (aCons (eVar 1) aNil))) (eInt 1)) aNil))))))

/-- _law_source(script, at), as the library has it -/
abbrev F_law_source : Fn := Lib.F_law_source

/-- _law_pick(s, many), as the library has it -/
abbrev F_law_pick : Fn := Lib.F_law_pick

/-- _law_within(s, low, high), as the library has it -/
abbrev F_law_within : Fn := Lib.F_law_within

/-- _law_one(s, things), as the library has it -/
abbrev F_law_one : Fn := Lib.F_law_one

/-- _law_same(answer, due) : slots answer, due, fits, key, one, other -/
def F_law_same_0 : Fn := runDef 6
  (sSeq (sIf (tBl (eOp1 oIsN (eVar 1))) (sRet (eOp1 oIsN (eVar 0))) sPass) (sSeq (sIf (tTru (eIsA (eVar 1) .bool)) (sRet (eAnd (eIsA (eVar 0) .bool) (eOp oEq (eVar 0) (eVar 1)))) sPass) (sSeq (sIf (tTru (eIsA (eVar 1) .int)) (sRet (eAnd (eIsA (eVar 0) .int) (eAnd (eNot (eIsA (eVar 0) .bool)) (eOp oEq (eVar 0) (eVar 1))))) sPass) sNo)))

/-- _law_same(answer, due) : slots answer, due, fits, key, one, other -/
def F_law_same_1 : Fn := runDef 6
  (sSeq (sIf (tBl (eOp1 oIsN (eVar 1))) (sRet (eOp1 oIsN (eVar 0))) sPass) (sSeq (sIf (tTru (eIsA (eVar 1) .bool)) (sRet (eAnd (eIsA (eVar 0) .bool) (eOp oEq (eVar 0) (eVar 1)))) sPass) (sSeq (sIf (tTru (eIsA (eVar 1) .int)) (sRet (eAnd (eIsA (eVar 0) .int) (eAnd (eNot (eIsA (eVar 0) .bool)) (eOp oEq (eVar 0) (eVar 1))))) sPass) (sSeq (sIf (tTru (eIsA (eVar 1) .str)) (sRet (eAnd (eIsA (eVar 0) .str) (eOp oEq (eVar 0) (eVar 1)))) sPass) (sSeq (sIf (tTru (eIsA (eVar 1) .dict)) sNo sPass) (sSeq (sIf (tTru (eIsA (eVar 1) .tuple)) (sSet 2 (eIsA (eVar 0) .tuple)) (sSet 2 (eIsA (eVar 0) .list))) (sRet (eAnd (eVar 2) (eAnd (eOp oEq (eB bLen (aCons (eVar 0) aNil)) (eB bLen (aCons (eVar 1) aNil))) (eB bAll (aCons (eComp (iZip3 (aCons (eVar 0) (aCons (eVar 1) aNil))) (gTp (gMore (gNm 4) (gMore (gNm 5) gNone))) tYes (eCall F_law_same_0 (aCons (eVar 4) (aCons (eVar 5) aNil))) [4, 5]) aNil)))))))))))

/-- _law_same(answer, due) : slots answer, due, fits, key, one, other -/
def F_law_same_2 : Fn := runDef 6
  (sSeq (sIf (tBl (eOp1 oIsN (eVar 1))) (sRet (eOp1 oIsN (eVar 0))) sPass) (sSeq (sIf (tTru (eIsA (eVar 1) .bool)) (sRet (eAnd (eIsA (eVar 0) .bool) (eOp oEq (eVar 0) (eVar 1)))) sPass) (sSeq (sIf (tTru (eIsA (eVar 1) .int)) (sRet (eAnd (eIsA (eVar 0) .int) (eAnd (eNot (eIsA (eVar 0) .bool)) (eOp oEq (eVar 0) (eVar 1))))) sPass) (sSeq (sIf (tTru (eIsA (eVar 1) .str)) (sRet (eAnd (eIsA (eVar 0) .str) (eOp oEq (eVar 0) (eVar 1)))) sPass) (sSeq (sIf (tTru (eIsA (eVar 1) .dict)) sNo sPass) (sSeq (sIf (tTru (eIsA (eVar 1) .tuple)) (sSet 2 (eIsA (eVar 0) .tuple)) (sSet 2 (eIsA (eVar 0) .list))) (sRet (eAnd (eVar 2) (eAnd (eOp oEq (eB bLen (aCons (eVar 0) aNil)) (eB bLen (aCons (eVar 1) aNil))) (eB bAll (aCons (eComp (iZip3 (aCons (eVar 0) (aCons (eVar 1) aNil))) (gTp (gMore (gNm 4) (gMore (gNm 5) gNone))) tYes (eCall F_law_same_1 (aCons (eVar 4) (aCons (eVar 5) aNil))) [4, 5]) aNil)))))))))))

/-- _law_e_gcd(a, b), as the library has it -/
abbrev F_law_e_gcd : Fn := LibR.F_law_e_gcd

/-- _law_e_shifts(a, b), as the library has it -/
abbrev F_law_e_shifts : Fn := LibR.F_law_e_shifts

/-- _law_e_grain(a, b), as the library has it -/
abbrev F_law_e_grain : Fn := LibR.F_law_e_grain

/-- _law_e_meets(a, b), as the library has it -/
abbrev F_law_e_meets : Fn := LibR.F_law_e_meets

/-- _law_e_reach(lines, start), as the library has it -/
abbrev F_law_e_reach : Fn := LibR.F_law_e_reach

/-- _law_e_draw(s) : slots s, times, step, base, far, style, top, a, b -/
def F_law_e_draw : Fn := runDef 9
  (sSeq (sPar [5, 6] [(eCall F_law_pick (aCons (eVar 0) (aCons (eInt 6) aNil))), (eCall F_law_one (aCons (eVar 0) (aCons (eLst (aCons (eInt 8) (aCons (eInt 8) (aCons (eInt 60) aNil)))) aNil)))]) (sSeq (sIf (tBl (eOp oEq (eVar 5) (eInt 0))) (sRet (eTup (aCons (eLst (aCons (eCall F_law_pick (aCons (eVar 0) (aCons (eInt 9) aNil))) (aCons (eCall F_law_pick (aCons (eVar 0) (aCons (eInt 9) aNil))) aNil))) (aCons (eLst (aCons (eCall F_law_pick (aCons (eVar 0) (aCons (eInt 9) aNil))) (aCons (eCall F_law_pick (aCons (eVar 0) (aCons (eInt 9) aNil))) aNil))) aNil)))) sPass) (sSeq (sIf (tBl (eOp oEq (eVar 5) (eInt 1))) (sSeq (sSet 7 (eLst (aCons (eCall F_law_pick (aCons (eVar 0) (aCons (eOp oAdd (eVar 6) (eInt 1)) aNil))) (aCons (eCall F_law_pick (aCons (eVar 0) (aCons (eOp oAdd (eVar 6) (eInt 1)) aNil))) aNil)))) (sSeq (sSet 8 (eB bList (aCons (eVar 7) aNil))) (sSeq (sIf (tTru (eCall F_law_pick (aCons (eVar 0) (aCons (eInt 2) aNil)))) (sIxPut 8 (eCall F_law_pick (aCons (eVar 0) (aCons (eInt 2) aNil))) (eCall F_law_pick (aCons (eVar 0) (aCons (eOp oAdd (eVar 6) (eInt 1)) aNil)))) sPass) (sRet (eTup (aCons (eVar 7) (aCons (eVar 8) aNil))))))) sPass) (sSeq (sSet 1 (eCall F_law_within (aCons (eVar 0) (aCons (eInt 1) (aCons (eCall F_law_one (aCons (eVar 0) (aCons (eLst (aCons (eInt 2) (aCons (eOp oSub (eOp oDiv (eVar 6) (eInt 2)) (eInt 1)) aNil))) aNil))) aNil))))) (sSeq (sSet 2 (eCall F_law_within (aCons (eVar 0) (aCons (eInt 1) (aCons (eOp oDiv (eVar 6) (eOp oAdd (eVar 1) (eInt 1))) aNil))))) (sSeq (sSet 3 (eLst (aCons (eCall F_law_pick (aCons (eVar 0) (aCons (eOp oAdd (eOp oSub (eVar 6) (eOp oMul (eVar 1) (eVar 2))) (eInt 1)) aNil))) (aCons (eCall F_law_pick (aCons (eVar 0) (aCons (eOp oAdd (eOp oSub (eVar 6) (eOp oMul (eOp oAdd (eVar 1) (eInt 1)) (eVar 2))) (eInt 1)) aNil))) aNil)))) (sSeq (sSet 4 (eLst (aCons (eOp oAdd (eOp oIx (eVar 3) (eInt 0)) (eOp oMul (eVar 1) (eVar 2))) (aCons (eOp oAdd (eOp oIx (eVar 3) (eInt 1)) (eOp oMul (eOp oAdd (eVar 1) (eInt 1)) (eVar 2))) aNil)))) (sSeq (sIf (tBl (eOp oEq (eVar 5) (eInt 5))) (sIxPut 4 (eInt 1) (eCall F_law_pick (aCons (eVar 0) (aCons (eOp oAdd (eVar 6) (eInt 1)) aNil)))) sPass) (sSeq (sGet (gTp (gMore (gNm 7) (gMore (gNm 8) gNone))) (eIf (tTru (eCall F_law_pick (aCons (eVar 0) (aCons (eInt 2) aNil)))) (eTup (aCons (eVar 3) (aCons (eVar 4) aNil))) (eTup (aCons (eVar 4) (aCons (eVar 3) aNil))))) (sSeq (sIf (tTru (eCall F_law_pick (aCons (eVar 0) (aCons (eInt 2) aNil)))) (sPar [7, 8] [(eLst (aCons (eOp oIx (eVar 7) (eInt 1)) (aCons (eOp oIx (eVar 7) (eInt 0)) aNil))), (eLst (aCons (eOp oIx (eVar 8) (eInt 1)) (aCons (eOp oIx (eVar 8) (eInt 0)) aNil)))]) sPass) (sRet (eTup (aCons (eVar 7) (aCons (eVar 8) aNil))))))))))))))

/-- _law_e_due(a, b) : slots a, b, zero, i, turn, j, cell, looks, there -/
def F_law_e_due : Fn := runDef 9
  (sSeq (sSet 2 (eComp (iRange1 (aCons (eInt 2) aNil)) (gNm 3) (tBl (eOp oEq (eOp oIx (eVar 0) (eVar 3)) (eOp oIx (eVar 1) (eVar 3)))) (eVar 3) [3])) (sSeq (sIf (tTru (eVar 2)) (sRet (eLst (aCons (eRevT (eB bMinL (aCons (eComp (iAny (eVar 2)) (gNm 3) tYes (eTup (aCons (eOp oIx (eVar 0) (eVar 3)) (aCons (eVar 3) aNil))) [3]) aNil))) aNil))) sPass) (sSeq (sFor (iRange1 (aCons (eInt 2) aNil)) (gNm 3) (sSeq (sPar [5, 6, 7] [(eOp oSub (eInt 1) (eVar 3)), (eInt 0), (eLst aNil)]) (sFor (iRange1 (aCons (eInt 130) aNil)) (gNm 4) (sSeq (sApp 7 (eTup (aCons (eVar 3) (aCons (eOp oAdd (eVar 6) (eOp oIx (eVar 0) (eVar 3))) aNil)))) (sSeq (sSet 8 (eOp oSub (eOp oAdd (eVar 6) (eOp oIx (eVar 0) (eVar 3))) (eOp oIx (eVar 1) (eVar 3)))) (sSeq (sIf (tBl (eOp oEq (eVar 8) (eInt 0))) (sRet (eB bSort (aCons (eVar 7) aNil))) sPass) (sSeq (sApp 7 (eTup (aCons (eVar 5) (aCons (eOp oAdd (eVar 8) (eOp oIx (eVar 1) (eVar 5))) aNil)))) (sSeq (sSet 6 (eOp oSub (eOp oAdd (eVar 8) (eOp oIx (eVar 1) (eVar 5))) (eOp oIx (eVar 0) (eVar 5)))) (sIf (tBl (eOp oGt (eB bAbs (aCons (eVar 6) aNil)) (eInt 130))) sBreak sPass))))))))) (sRet (eC .non)))))

/-- _law_e_lines(a, b, far, left) : slots a, b, far, left, lines, i, beat -/
def F_law_e_lines : Fn := runDef 7
  (sSeq (sSet 4 (eLst aNil)) (sSeq (sFor (iRange1 (aCons (eInt 2) aNil)) (gNm 5) (sFor (iRange2 (aCons (eOp1 oNeg (eVar 2)) (aCons (eOp oAdd (eVar 2) (eInt 1)) aNil))) (gNm 6) (sIf (tBl (eOp oNe (eTup (aCons (eVar 5) (aCons (eVar 6) aNil))) (eVar 3))) (sApp 4 (eTup (aCons (eTup (aCons (eInt 0) (aCons (eOp oSub (eVar 6) (eOp oIx (eVar 0) (eVar 5))) aNil))) (aCons (eTup (aCons (eInt 1) (aCons (eOp oSub (eVar 6) (eOp oIx (eVar 1) (eVar 5))) aNil))) aNil)))) sPass))) (sRet (eOwn 4))))

/-- _law_e_joins(lines) : slots lines -/
def F_law_e_joins : Fn := runDef 1
  (sRet (eTIn false (eTup (aCons (eInt 1) (aCons (eInt 0) aNil))) (eCall F_law_e_reach (aCons (eVar 0) (aCons (eTup (aCons (eInt 0) (aCons (eInt 0) aNil))) aNil)))))

/-- _law_e_answers(a, b) : slots a, b, told, beats, look, due, one, other -/
def F_law_e_answers : Fn := runDef 8
  (sSeq (sPar [5, 6, 7] [(eCall F_law_e_due (aCons (eVar 0) (aCons (eVar 1) aNil))), (eB bList (aCons (eVar 0) aNil)), (eB bList (aCons (eVar 1) aNil))]) (sSeq (sSet 2 (eCall F_two_routes (aCons (eVar 6) (aCons (eVar 7) aNil)))) (sSeq (sIf (tOr (tNot (tTru (eKeep (eCall F_law_same_2 (aCons (eVar 2) (aCons (eVar 5) aNil)))))) (tOr (tBl (eOp oNe (eVar 6) (eVar 0))) (tBl (eOp oNe (eVar 7) (eVar 1))))) (sRet (eC (.bl false))) sPass) (sSeq (sIf (tBl (eOp oNe (eOp1 oNotN (eVar 5)) (eCall F_law_e_meets (aCons (eVar 0) (aCons (eVar 1) aNil))))) (sRet (eC (.bl false))) sPass) (sSeq (sIf (tAnd (tBl (eOp oLe (eB bMaxL (aCons (eOp oAdd (eVar 0) (eVar 1)) aNil)) (eInt 8))) (tBl (eOp oNe (eCall F_law_e_joins (aCons (eCall F_law_e_lines (aCons (eVar 0) (aCons (eVar 1) (aCons (eInt 60) (aCons (eC .non) aNil))))) aNil)) (eOp1 oNotN (eVar 5))))) (sRet (eC (.bl false))) sPass) (sSeq (sIf (tBl (eOp1 oIsN (eVar 5))) (sRet (eC (.bl true))) sPass) (sSeq (sSet 3 (eComp (iAny (eVar 5)) (gNm 4) tYes (eOp oIx (eVar 4) (eInt 1)) [4])) (sSeq (sIf (tNot (tTru (eKeep (eCall F_law_same_2 (aCons (eCall F_route_lag (aCons (eVar 2) aNil)) (aCons (eTup (aCons (eB bMaxL (aCons (eVar 3) aNil)) (aCons (eOp oAdd (eOp oSub (eB bMaxL (aCons (eVar 3) aNil)) (eB bMinL (aCons (eVar 3) aNil))) (eInt 1)) aNil))) aNil)))))) (sRet (eC (.bl false))) sPass) (sSeq (sFor (iAny (eVar 5)) (gNm 4) (sSeq (sIf (tAnd (tBl (eOp oNe (eVar 0) (eVar 1))) (tAnd (tBl (eOp oLe (eB bMaxL (aCons (eOp oAdd (eVar 0) (eVar 1)) aNil)) (eInt 8))) (tTru (eCall F_law_e_joins (aCons (eCall F_law_e_lines (aCons (eVar 0) (aCons (eVar 1) (aCons (eInt 20) (aCons (eVar 4) aNil))))) aNil))))) (sRet (eC (.bl false))) sPass) (sIf (tBl (eOp oLt (eOp oIx (eVar 4) (eInt 1)) (eInt 0))) (sRet (eC (.bl false))) sPass))) (sSeq (sApp 2 (eTup (aCons (eInt 0) (aCons (eInt 99) aNil)))) (sRet (eAnd (eCall F_law_same_2 (aCons (eCall F_two_routes (aCons (eVar 0) (aCons (eVar 1) aNil))) (aCons (eVar 5) aNil))) (eOr (eOp oGt (eB bMaxL (aCons (eOp oAdd (eVar 0) (eVar 1)) aNil)) (eInt 8)) (eCall F_law_e_joins (aCons (eCall F_law_e_lines (aCons (eVar 0) (aCons (eVar 1) (aCons (eInt 20) (aCons (eC .non) aNil))))) aNil)))))))))))))))

/-- _law_e_refusals(s, a, b) : slots s, a, b, at, rows, low, far, one, other, due -/
def F_law_e_refusals (P0 : Nat) : Fn := runDef 10
  (sSeq (sSet 3 (eCall F_law_pick (aCons (eVar 0) (aCons (eInt 2) aNil)))) (sSeq (sPar [5, 6] [(eB bList (aCons (eVar 1) aNil)), (eB bList (aCons (eVar 2) aNil))]) (sSeq (sIxPut2 5 (eVar 3) 6 (eVar 3) (eTup (aCons (eOp1 oNeg (eInt 1)) (aCons (eInt 61) aNil)))) (sSeq (sSet 4 (eLst (aCons (eTup (aCons (eVar 5) (aCons (eVar 2) (aCons (eTup (aCons (eStr "BadRoutes") (aCons (eStr "below") aNil))) aNil)))) (aCons (eTup (aCons (eVar 1) (aCons (eVar 6) (aCons (eTup (aCons (eStr "TooMany") aNil)) aNil)))) (aCons (eTup (aCons (eOp oAdd (eVar 1) (eLst (aCons (eInt 0) aNil))) (aCons (eOp oAdd (eVar 2) (eLst (aCons (eInt 0) aNil))) (aCons (eTup (aCons (eStr "BadRoutes") (aCons (eStr "size") aNil))) aNil)))) aNil))))) (sSeq (sSet 4 (eOp oAdd (eVar 4) (eLst (aCons (eTup (aCons (eSlL (eVar 1) pNone (pSome (eInt 1))) (aCons (eSlL (eVar 2) pNone (pSome (eInt 1))) (aCons (eTup (aCons (eStr "BadRoutes") (aCons (eStr "size") aNil))) aNil)))) (aCons (eTup (aCons (eVar 1) (aCons (eSlL (eVar 2) pNone (pSome (eInt 1))) (aCons (eTup (aCons (eStr "BadRoutes") (aCons (eStr "size") aNil))) aNil)))) (aCons (eTup (aCons (eLst (aCons (eInt 0) (aCons (eInt 60) aNil))) (aCons (eLst (aCons (eInt 60) (aCons (eInt 0) aNil))) (aCons (eTup (aCons (eStr "let") aNil)) aNil)))) aNil)))))) (sSeq (sFor (iAny (eVar 4)) (gTp (gMore (gNm 7) (gMore (gNm 8) (gMore (gNm 9) gNone)))) (sIf (tBl (eOp oNe (eRaised [(P0, "_law_e_refusals.<locals>.<lambda>")] (eCall F_two_routes (aCons (eVar 7) (aCons (eVar 8) aNil))) (ffOf SUB "other" CLS) (.tup [.str "let"])) (eVar 9))) (sRet (eC (.bl false))) sPass)) (sRet (eOp oEq (eRaised [(P0, "_law_e_refusals.<locals>.<lambda>")] (eCall F_route_lag (aCons (eLst aNil) aNil)) (ffOf SUB "other" CLS) (.tup [.str "let"])) (eTup (aCons (eStr "BadRoutes") (aCons (eStr "size") aNil)))))))))))

/-- law(script) : slots script, s, looks, beats, a, b, c, d, k, look -/
def F_law (P0 : Nat) : Fn := runDef 10
  (sSeq (sSet 1 (eCall F_law_source (aCons (eVar 0) (aCons (eInt 0) aNil)))) (sSeq (sGet (gTp (gMore (gNm 4) (gMore (gNm 5) gNone))) (eCall F_law_e_draw (aCons (eVar 1) aNil))) (sSeq (sGet (gTp (gMore (gNm 6) (gMore (gNm 7) gNone))) (eCall F_law_e_draw (aCons (eVar 1) aNil))) (sSeq (sIf (tNot (tTru (eCall F_law_e_answers (aCons (eVar 4) (aCons (eVar 5) aNil))))) (sRet (eC (.bl false))) sPass) (sSeq (sIf (tNot (tTru (eCall F_law_e_answers (aCons (eVar 6) (aCons (eVar 7) aNil))))) (sRet (eC (.bl false))) sPass) (sSeq (sSet 2 (eComp (iRange1 (aCons (eCall F_law_within (aCons (eVar 1) (aCons (eInt 1) (aCons (eInt 6) aNil)))) aNil)) (gNm 8) tYes (eTup (aCons (eCall F_law_pick (aCons (eVar 1) (aCons (eInt 2) aNil))) (aCons (eCall F_law_pick (aCons (eVar 1) (aCons (eInt 61) aNil))) aNil))) [8])) (sSeq (sSet 3 (eComp (iAny (eVar 2)) (gNm 9) tYes (eOp oIx (eVar 9) (eInt 1)) [9])) (sSeq (sIf (tNot (tTru (eCall F_law_same_2 (aCons (eCall F_route_lag (aCons (eVar 2) aNil)) (aCons (eTup (aCons (eB bMaxL (aCons (eVar 3) aNil)) (aCons (eOp oAdd (eOp oSub (eB bMaxL (aCons (eVar 3) aNil)) (eB bMinL (aCons (eVar 3) aNil))) (eInt 1)) aNil))) aNil))))) (sRet (eC (.bl false))) sPass) (sRet (eCall (F_law_e_refusals P0) (aCons (eVar 1) (aCons (eVar 4) (aCons (eVar 5) aNil)))))))))))))
end Mini.K28

set_option Elab.async false
set_option linter.all false
set_option maxRecDepth 100000
set_option maxHeartbeats 4000000
/-! W_k28: each def keeps the promise of its evaluator's term (printed by gen.py). -/
namespace Mini.K28
open Mini PySem PySem.Spec PyProof.Rows L2
def topS (i : Nat) : Stmt := PySem.Challenge.pw_whicheverfits_k28_two_routes_need_these.main.body.getD i (.Pass ⟨0, 0, 0, 0⟩)
section
variable {P : Program} {w : World} {K : PySem.W.Frag} {mg : Str → Option Value} {base : Heap} {T : XT}
abbrev s_law_fault : Stmt := topS 19
abbrev s_law_e_raised : Stmt := topS 24
theorem fb : FB "error" "other" CLS (defBody s_law_fault) := (.c0 (.c1 .nil))
theorem sc_law_fault : FnScope ["error"] ["error"] (defScope s_law_fault) := ⟨rfl, rfl, rfl, by decide +kernel, rfl, by decide +kernel, by decide +kernel⟩
theorem raised {K : PySem.W.Frag} {mg : Str → Option Value} (t : TxtD K mg "_law_e_raised" s_law_e_raised ["call"]) : RaisedTxt K mg "_law_e_raised" s_law_e_raised ["call", "told", "error"] "call" "error" "told" "_law_fault" "FitsError" "let" 2 1 :=
  ⟨t, ⟨rfl, rfl, rfl, by decide +kernel, rfl, by decide +kernel, by decide +kernel⟩, ⟨_, _, _, _, _, _, _, _, _, _, _, _, _, _, _, _, fun _ => rfl, rfl⟩, rfl, rfl, rfl, rfl, rfl, rfl, rfl, rfl, by decide, by decide, by decide, by decide, by decide⟩
theorem fault_ok {f : Addr} {fd : FuncData} (F : Fun K "_law_fault" "_law_fault" s_law_fault f fd) (hm : mg "isinstance" = none) (hE : ∀ cn C, T cn = some C → ErrC K mg SUB CLS cn C) :
    FnP P w K mg base 1 f fd ["error"] (spF K (GAll T SUB "other" CLS)) :=
  fault_fn F sc_law_fault fb rfl rfl rfl hm (by decide) (by decide) (fun q hq => by
    simp only [CLS, List.mem_cons, List.mem_nil_iff, or_false] at hq
    rcases hq with rfl | rfl <;> exact ⟨rfl, by decide⟩) hE

abbrev s_check_bound : Stmt := topS 6
theorem sc_check_bound : FnScope ["word", "number"] ["word", "number"] (defScope s_check_bound) := ⟨rfl, rfl, rfl, by decide +kernel, rfl, by decide +kernel, by decide +kernel⟩

theorem d_check_bound (t : TxtD K mg "check_bound" s_check_bound ["word", "number"]) {d_LIMITS : Addr} (G_LIMITS : GTabD K w mg "LIMITS" d_LIMITS TAB_LIMITS) {C_TooMany : Addr} (K_TooMany : Kls P w K mg base T 1 "TooMany" "what" C_TooMany) : Def P w K mg base T 3 "check_bound" ["word", "number"] F_check_bound :=
  Def.of (N := ["word", "number"]) t sc_check_bound fun f cdv A outer s H E hr => by
    have tk := takes_of (X := cxOf (L2.CX P w) P w K mg base ["word", "number"] "check_bound" (defScope s_check_bound) f cdv A outer s H E) (E := E) rfl rfl rfl rfl
    exact ⟨_, (sb_one (ss_if (st_cmp c_gt (s_v 1) (s_gtabD G_LIMITS (s_v 0))) (sb_one (ss_raise1 rfl K_TooMany (hr.mono (by decide)) tk (s_v 0))) sb_nil))⟩

abbrev s_check_lates : Stmt := topS 8
theorem sc_check_lates : FnScope ["rows", "least", "row", "late"] ["rows", "least"] (defScope s_check_lates) := ⟨rfl, rfl, rfl, by decide +kernel, rfl, by decide +kernel, by decide +kernel⟩

theorem d_check_lates (t : TxtD K mg "check_lates" s_check_lates ["rows", "least"]) (m_any : mg "any" = none) (m_len : mg "len" = none) {C_BadRoutes : Addr} (K_BadRoutes : Kls P w K mg base T 1 "BadRoutes" "what" C_BadRoutes) (D_check_bound : Def P w K mg base T 3 "check_bound" ["word", "number"] F_check_bound) : Def P w K mg base T 4 "check_lates" ["rows", "least"] F_check_lates :=
  Def.of (N := ["rows", "least", "row", "late"]) t sc_check_lates fun f cdv A outer s H E hr => by
    have tk := takes_of (X := cxOf (L2.CX P w) P w K mg base ["rows", "least", "row", "late"] "check_lates" (defScope s_check_lates) f cdv A outer s H E) (E := E) rfl rfl rfl rfl
    exact ⟨_, (sb_cons (ss_for (passes_of rfl) rfl (si_any (s_v 0)) (sg_nm 2 sc_check_lates.nd) (sb_cons (ss_drop (s_call D_check_bound hr tk (ar_cons (ar_cons ar_nil)) (sa_cons s_str (sa_cons (s_len m_len (sa_cons (s_v 2) sa_nil)) sa_nil)))) (sb_one (ss_for (passes_of rfl) rfl (si_any (s_v 2)) (sg_nm 3 sc_check_lates.nd) (sb_one (ss_drop (s_call D_check_bound hr tk (ar_cons (ar_cons ar_nil)) (sa_cons s_str (sa_cons (s_v 3) sa_nil))))))))) (sb_cons (ss_if (st_w (sw_or (st_not (st_tru (s_v 0))) (sw_or1 (st_not (st_tru (s_ix (s_v 0) s_int)))))) (sb_one (ss_raise1 rfl K_BadRoutes (hr.mono (by decide)) tk s_str)) sb_nil) (sb_cons (ss_if (st_tru (s_any rfl m_any (sa_cons (s_comp (own := [("row", 2)]) rfl sc_check_lates.nd (si_any (s_v 0)) (blkOk_by (N := ["rows", "least", "row", "late"]) (sc := defScope s_check_lates) (by decide +kernel)) (fun _ _ _ _ _ => by exact (sg_nm 2 sc_check_lates.nd)) (fun _ _ _ _ _ => by exact sq_nil) (fun _ _ _ _ _ => by exact (s_cmp (c_ne hr.units) (s_len m_len (sa_cons (s_v 2) sa_nil)) (s_len m_len (sa_cons (s_ix (s_v 0) s_int) sa_nil))))) sa_nil))) (sb_one (ss_raise1 rfl K_BadRoutes (hr.mono (by decide)) tk s_str)) sb_nil) (sb_one (ss_for (passes_of rfl) rfl (si_any (s_v 0)) (sg_nm 2 sc_check_lates.nd) (sb_one (ss_if (st_tru (s_any rfl m_any (sa_cons (s_comp (own := [("late", 3)]) rfl sc_check_lates.nd (si_any (s_v 2)) (blkOk_by (N := ["rows", "least", "row", "late"]) (sc := defScope s_check_lates) (by decide +kernel)) (fun _ _ _ _ _ => by exact (sg_nm 3 sc_check_lates.nd)) (fun _ _ _ _ _ => by exact sq_nil) (fun _ _ _ _ _ => by exact (s_cmp c_lt (s_v 3) (s_v 1)))) sa_nil))) (sb_one (ss_raise1 rfl K_BadRoutes (hr.mono (by decide)) tk s_str)) sb_nil)))))))⟩

abbrev s_late_shifts : Stmt := topS 9
theorem sc_late_shifts : FnScope ["a", "b", "one", "other"] ["a", "b"] (defScope s_late_shifts) := ⟨rfl, rfl, rfl, by decide +kernel, rfl, by decide +kernel, by decide +kernel⟩

theorem d_late_shifts (t : TxtD K mg "late_shifts" s_late_shifts ["a", "b"]) (m_zip : mg "zip" = none) : Def P w K mg base T 1 "late_shifts" ["a", "b"] F_late_shifts :=
  Def.of (N := ["a", "b", "one", "other"]) t sc_late_shifts fun f cdv A outer s H E hr => by
    have tk := takes_of (X := cxOf (L2.CX P w) P w K mg base ["a", "b", "one", "other"] "late_shifts" (defScope s_late_shifts) f cdv A outer s H E) (E := E) rfl rfl rfl rfl
    exact ⟨_, (sb_one (ss_ret (s_comp (own := [("one", 2), ("other", 3)]) rfl sc_late_shifts.nd (si_zip2 m_zip (sa_cons (s_v 0) (sa_cons (s_v 1) sa_nil))) (blkOk_by (N := ["a", "b", "one", "other"]) (sc := defScope s_late_shifts) (by decide +kernel)) (fun _ _ _ _ _ => by exact (sg_tup rfl (sgs_cons (sg_nm 2 sc_late_shifts.nd) (sgs_cons (sg_nm 3 sc_late_shifts.nd) sgs_nil)))) (fun _ _ _ _ _ => by exact sq_nil) (fun _ _ _ _ _ => by exact (s_sub (s_v 2) (s_v 3))))))⟩

abbrev s_zigzag_looks : Stmt := topS 10
theorem sc_zigzag_looks : FnScope ["a", "shifts", "i", "j", "step", "looks", "times", "rest", "turn"] ["a", "shifts", "i", "j"] (defScope s_zigzag_looks) := ⟨rfl, rfl, rfl, by decide +kernel, rfl, by decide +kernel, by decide +kernel⟩

theorem d_zigzag_looks (t : TxtD K mg "zigzag_looks" s_zigzag_looks ["a", "shifts", "i", "j"]) (m_divmod : mg "divmod" = none) (m_range : mg "range" = none) (m_sorted : mg "sorted" = none) : Def P w K mg base T 1 "zigzag_looks" ["a", "shifts", "i", "j"] F_zigzag_looks :=
  Def.of (N := ["a", "shifts", "i", "j", "step", "looks", "times", "rest", "turn"]) t sc_zigzag_looks fun f cdv A outer s H E hr => by
    have tk := takes_of (X := cxOf (L2.CX P w) P w K mg base ["a", "shifts", "i", "j", "step", "looks", "times", "rest", "turn"] "zigzag_looks" (defScope s_zigzag_looks) f cdv A outer s H E) (E := E) rfl rfl rfl rfl
    exact ⟨_, (sb_cons (ss_set 4 sc_zigzag_looks.nd (s_sub (s_ix (s_v 1) (s_v 2)) (s_ix (s_v 1) (s_v 3)))) (sb_cons (ss_if (st_cmp (c_eq hr.units) (s_v 4) s_int) (sb_one (ss_ret s_non)) sb_nil) (sb_cons (ss_get (s_divmod m_divmod (sa_cons (s_sub s_int (s_ix (s_v 1) (s_v 2))) (sa_cons (s_v 4) sa_nil))) (sg_tup rfl (sgs_cons (sg_nm 6 sc_zigzag_looks.nd) (sgs_cons (sg_nm 7 sc_zigzag_looks.nd) sgs_nil)))) (sb_cons (ss_if (st_w (sw_or (st_cmp (c_ne hr.units) (s_v 7) s_int) (sw_or1 (st_cmp c_lt (s_v 6) s_int)))) (sb_one (ss_ret s_non)) sb_nil) (sb_cons (ss_comp (i := 5) (own := [("turn", 8)]) rfl sc_zigzag_looks.nd (si_range1 m_range (sa_cons (s_add (s_v 6) s_int) sa_nil)) (blkOk_by (N := ["a", "shifts", "i", "j", "step", "looks", "times", "rest", "turn"]) (sc := defScope s_zigzag_looks) (by decide +kernel)) (fun _ _ _ _ _ => by exact (sg_nm 8 sc_zigzag_looks.nd)) (fun _ _ _ _ _ => by exact sq_nil) (fun _ _ _ _ _ => by exact (s_tup (sa_cons (s_v 2) (sa_cons (s_add (s_ix (s_v 0) (s_v 2)) (s_mul (s_v 8) (s_v 4))) sa_nil))))) (sb_one (ss_ret (s_sorted (hu65 hr) m_sorted (sa_cons (s_add (s_v 5) (s_comp (own := [("turn", 8)]) rfl sc_zigzag_looks.nd (si_range2 m_range (sa_cons s_int (sa_cons (s_add (s_v 6) s_int) sa_nil))) (blkOk_by (N := ["a", "shifts", "i", "j", "step", "looks", "times", "rest", "turn"]) (sc := defScope s_zigzag_looks) (by decide +kernel)) (fun _ _ _ _ _ => by exact (sg_nm 8 sc_zigzag_looks.nd)) (fun _ _ _ _ _ => by exact sq_nil) (fun _ _ _ _ _ => by exact (s_tup (sa_cons (s_v 3) (sa_cons (s_add (s_ix (s_v 0) (s_v 3)) (s_mul (s_v 8) (s_v 4))) sa_nil)))))) sa_nil)))))))))⟩

abbrev s_two_routes : Stmt := topS 11
theorem sc_two_routes : FnScope ["a", "b", "shifts", "even", "found", "i", "late"] ["a", "b"] (defScope s_two_routes) := ⟨rfl, rfl, rfl, by decide +kernel, rfl, by decide +kernel, by decide +kernel⟩

theorem d_two_routes (t : TxtD K mg "two_routes" s_two_routes ["a", "b"]) (m_len : mg "len" = none) (m_min : mg "min" = none) (m_range : mg "range" = none) {C_BadRoutes : Addr} (K_BadRoutes : Kls P w K mg base T 1 "BadRoutes" "what" C_BadRoutes) (D_check_lates : Def P w K mg base T 4 "check_lates" ["rows", "least"] F_check_lates) (D_late_shifts : Def P w K mg base T 1 "late_shifts" ["a", "b"] F_late_shifts) (D_zigzag_looks : Def P w K mg base T 1 "zigzag_looks" ["a", "shifts", "i", "j"] F_zigzag_looks) : Def P w K mg base T 5 "two_routes" ["a", "b"] F_two_routes :=
  Def.of (N := ["a", "b", "shifts", "even", "found", "i", "late"]) t sc_two_routes fun f cdv A outer s H E hr => by
    have tk := takes_of (X := cxOf (L2.CX P w) P w K mg base ["a", "b", "shifts", "even", "found", "i", "late"] "two_routes" (defScope s_two_routes) f cdv A outer s H E) (E := E) rfl rfl rfl rfl
    exact ⟨_, (sb_cons (ss_drop (s_call D_check_lates hr tk (ar_cons (ar_cons ar_nil)) (sa_cons (s_lst (sa_cons (s_v 0) (sa_cons (s_v 1) sa_nil))) (sa_cons s_int sa_nil)))) (sb_cons (ss_if (st_cmp (c_ne hr.units) (s_len m_len (sa_cons (s_v 0) sa_nil)) s_int) (sb_one (ss_raise1 rfl K_BadRoutes (hr.mono (by decide)) tk s_str)) sb_nil) (sb_cons (ss_set 2 sc_two_routes.nd (s_call D_late_shifts hr tk (ar_cons (ar_cons ar_nil)) (sa_cons (s_v 0) (sa_cons (s_v 1) sa_nil)))) (sb_cons (ss_comp (i := 3) (own := [("i", 5)]) rfl sc_two_routes.nd (si_range1 m_range (sa_cons s_int sa_nil)) (blkOk_by (N := ["a", "b", "shifts", "even", "found", "i", "late"]) (sc := defScope s_two_routes) (by decide +kernel)) (fun _ _ _ _ _ => by exact (sg_nm 5 sc_two_routes.nd)) (fun _ _ _ _ _ => by exact (sq_one (st_cmp (c_eq hr.units) (s_ix (s_v 2) (s_v 5)) s_int))) (fun _ _ _ _ _ => by exact (s_tup (sa_cons (s_ix (s_v 0) (s_v 5)) (sa_cons (s_v 5) sa_nil))))) (sb_cons (ss_if (st_tru (s_v 3)) (sb_cons (ss_get (s_minL rfl (hu65 hr) m_min (sa_cons (s_v 3) sa_nil)) (sg_tup rfl (sgs_cons (sg_nm 6 sc_two_routes.nd) (sgs_cons (sg_nm 5 sc_two_routes.nd) sgs_nil)))) (sb_one (ss_ret (s_lst (sa_cons (s_tup (sa_cons (s_v 5) (sa_cons (s_v 6) sa_nil))) sa_nil))))) sb_nil) (sb_cons (ss_set 4 sc_two_routes.nd (s_call D_zigzag_looks hr tk (ar_cons (ar_cons (ar_cons (ar_cons ar_nil)))) (sa_cons (s_v 0) (sa_cons (s_v 2) (sa_cons s_int (sa_cons s_int sa_nil)))))) (sb_one (ss_ret (s_if (st_noneV 4) (s_call D_zigzag_looks hr tk (ar_cons (ar_cons (ar_cons (ar_cons ar_nil)))) (sa_cons (s_v 0) (sa_cons (s_v 2) (sa_cons s_int (sa_cons s_int sa_nil))))) (s_own 4))))))))))⟩

abbrev s_route_lag : Stmt := topS 12
theorem sc_route_lag : FnScope ["looks", "beats", "look"] ["looks"] (defScope s_route_lag) := ⟨rfl, rfl, rfl, by decide +kernel, rfl, by decide +kernel, by decide +kernel⟩

theorem d_route_lag (t : TxtD K mg "route_lag" s_route_lag ["looks"]) (m_max : mg "max" = none) (m_min : mg "min" = none) {C_BadRoutes : Addr} (K_BadRoutes : Kls P w K mg base T 1 "BadRoutes" "what" C_BadRoutes) : Def P w K mg base T 3 "route_lag" ["looks"] F_route_lag :=
  Def.of (N := ["looks", "beats", "look"]) t sc_route_lag fun f cdv A outer s H E hr => by
    have tk := takes_of (X := cxOf (L2.CX P w) P w K mg base ["looks", "beats", "look"] "route_lag" (defScope s_route_lag) f cdv A outer s H E) (E := E) rfl rfl rfl rfl
    exact ⟨_, (sb_cons (ss_if (st_not (st_tru (s_v 0))) (sb_one (ss_raise1 rfl K_BadRoutes (hr.mono (by decide)) tk s_str)) sb_nil) (sb_cons (ss_comp (i := 1) (own := [("look", 2)]) rfl sc_route_lag.nd (si_any (s_v 0)) (blkOk_by (N := ["looks", "beats", "look"]) (sc := defScope s_route_lag) (by decide +kernel)) (fun _ _ _ _ _ => by exact (sg_nm 2 sc_route_lag.nd)) (fun _ _ _ _ _ => by exact sq_nil) (fun _ _ _ _ _ => by exact (s_ix (s_v 2) s_int))) (sb_one (ss_ret (s_tup (sa_cons (s_maxL rfl (hu65 hr) m_max (sa_cons (s_v 1) sa_nil)) (sa_cons (s_add (s_sub (s_maxL rfl (hu65 hr) m_max (sa_cons (s_v 1) sa_nil)) (s_minL rfl (hu65 hr) m_min (sa_cons (s_v 1) sa_nil))) s_int) sa_nil)))))))⟩

abbrev s_law_source : Stmt := topS 14
theorem sc_law_source : FnScope ["script", "at", "k", "left", "seed", "many", "raw", "cell"] ["script", "at"] (defScope s_law_source) := ⟨rfl, rfl, rfl, by decide +kernel, rfl, by decide +kernel, by decide +kernel⟩

theorem d_law_source (t : TxtD K mg "_law_source" s_law_source ["script", "at"]) (m_abs : mg "abs" = none) (m_int : mg "int" = none) (m_len : mg "len" = none) (m_min : mg "min" = none) (m_range : mg "range" = none) : Def P w K mg base T 1 "_law_source" ["script", "at"] F_law_source :=
  Def.of (N := ["script", "at", "k", "left", "seed", "many", "raw", "cell"]) t sc_law_source fun f cdv A outer s H E hr => by
    have tk := takes_of (X := cxOf (L2.CX P w) P w K mg base ["script", "at", "k", "left", "seed", "many", "raw", "cell"] "_law_source" (defScope s_law_source) f cdv A outer s H E) (E := E) rfl rfl rfl rfl
    exact ⟨_, (sb_cons (ss_par3 3 4 5 rfl sc_law_source.nd (s_lstC sa_nil) (s_add s_int (s_v 1)) (s_min rfl m_min (sa_cons (s_len m_len (sa_cons (s_v 0) sa_nil)) (sa_cons s_int sa_nil)))) (sb_cons (ss_for (passes_of rfl) rfl (si_range1 m_range (sa_cons (s_v 5) sa_nil)) (sg_nm 2 sc_law_source.nd) (sb_cons (ss_set 6 sc_law_source.nd (s_int1 m_int (sa_cons (s_ix (s_v 0) (s_mod (s_add (s_v 1) (s_v 2)) (s_v 5))) sa_nil))) (sb_cons (ss_set 7 sc_law_source.nd (s_abs m_abs (sa_cons (s_v 6) sa_nil))) (sb_cons (ss_set 4 sc_law_source.nd (s_mod (s_int1 m_int (sa_cons (s_add (s_add (s_add (s_mul (s_v 4) s_int) (s_mod (s_v 7) s_int)) (s_v 2)) (s_if (st_cmp c_lt (s_v 6) s_int) s_int s_int)) sa_nil)) s_int)) (sb_one (ss_if (st_cmp c_ge (s_v 7) (s_pow s_int s_int)) (sb_one (ss_appC (s_v 3) (s_mod (s_v 7) (s_pow (s_pow s_int s_int) s_int)))) sb_nil)))))) (sb_one (ss_ret (s_disp (sd_cons (s_v 3) (sd_cons s_int (sd_cons (s_v 4) (sd_cons s_int sd_nil)))))))))⟩

abbrev s_law_pick : Stmt := topS 15
theorem sc_law_pick : FnScope ["s", "many", "told"] ["s", "many"] (defScope s_law_pick) := ⟨rfl, rfl, rfl, by decide +kernel, rfl, by decide +kernel, by decide +kernel⟩

theorem d_law_pick (t : TxtD K mg "_law_pick" s_law_pick ["s", "many"]) (m_int : mg "int" = none) : Def P w K mg base T 1 "_law_pick" ["s", "many"] F_law_pick :=
  Def.of (N := ["s", "many", "told"]) t sc_law_pick fun f cdv A outer s H E hr => by
    have tk := takes_of (X := cxOf (L2.CX P w) P w K mg base ["s", "many", "told"] "_law_pick" (defScope s_law_pick) f cdv A outer s H E) (E := E) rfl rfl rfl rfl
    exact ⟨_, (sb_cons (ss_if (st_cmp c_lt (s_v 1) s_int) (sb_one (ss_ret s_int)) sb_nil) (sb_cons (ss_while fuel (passes_of rfl) (st_w (sw_and (st_cmp c_lt (s_dget (hu_of hr) (s_v 0) s_str) s_int) (sw_and1 (st_tru (s_dget (hu_of hr) (s_v 0) s_str))))) (sb_one (ss_dput (hu_of hr) (s_v 0) s_str (s_popC (s_dget (hu_of hr) (s_v 0) s_str) s_int)))) (sb_cons (ss_if (st_cmp c_gt (s_dget (hu_of hr) (s_v 0) s_str) s_int) (sb_cons (ss_set 2 sc_law_pick.nd (s_mod (s_int1 m_int (sa_cons (s_dget (hu_of hr) (s_v 0) s_str) sa_nil)) (s_v 1))) (sb_cons (ss_dput (hu_of hr) (s_v 0) s_str (s_div (s_dget (hu_of hr) (s_v 0) s_str) (s_v 1))) (sb_one (ss_ret (s_own 2))))) sb_nil) (sb_cons (ss_dput (hu_of hr) (s_v 0) s_str (s_add (s_dget (hu_of hr) (s_v 0) s_str) s_int)) (sb_cons (ss_dput (hu_of hr) (s_v 0) s_str (s_mod (s_int1 m_int (sa_cons (s_add (s_add (s_mul (s_dget (hu_of hr) (s_v 0) s_str) s_int) (s_mul (s_dget (hu_of hr) (s_v 0) s_str) s_int)) s_int) sa_nil)) s_int)) (sb_one (ss_ret (s_mod (s_int1 m_int (sa_cons (s_add (s_div (s_dget (hu_of hr) (s_v 0) s_str) s_int) (s_div (s_mul (s_dget (hu_of hr) (s_v 0) s_str) s_int) s_int)) sa_nil)) (s_v 1)))))))))⟩

abbrev s_law_within : Stmt := topS 16
theorem sc_law_within : FnScope ["s", "low", "high"] ["s", "low", "high"] (defScope s_law_within) := ⟨rfl, rfl, rfl, by decide +kernel, rfl, by decide +kernel, by decide +kernel⟩

theorem d_law_within (t : TxtD K mg "_law_within" s_law_within ["s", "low", "high"]) (D_law_pick : Def P w K mg base T 1 "_law_pick" ["s", "many"] F_law_pick) : Def P w K mg base T 2 "_law_within" ["s", "low", "high"] F_law_within :=
  Def.of (N := ["s", "low", "high"]) t sc_law_within fun f cdv A outer s H E hr => by
    have tk := takes_of (X := cxOf (L2.CX P w) P w K mg base ["s", "low", "high"] "_law_within" (defScope s_law_within) f cdv A outer s H E) (E := E) rfl rfl rfl rfl
    exact ⟨_, (sb_one (ss_ret (s_add (s_v 1) (s_call D_law_pick hr tk (ar_cons (ar_cons ar_nil)) (sa_cons (s_v 0) (sa_cons (s_add (s_sub (s_v 2) (s_v 1)) s_int) sa_nil))))))⟩

abbrev s_law_one : Stmt := topS 17
theorem sc_law_one : FnScope ["s", "things"] ["s", "things"] (defScope s_law_one) := ⟨rfl, rfl, rfl, by decide +kernel, rfl, by decide +kernel, by decide +kernel⟩

theorem d_law_one (t : TxtD K mg "_law_one" s_law_one ["s", "things"]) (m_len : mg "len" = none) (D_law_pick : Def P w K mg base T 1 "_law_pick" ["s", "many"] F_law_pick) : Def P w K mg base T 2 "_law_one" ["s", "things"] F_law_one :=
  Def.of (N := ["s", "things"]) t sc_law_one fun f cdv A outer s H E hr => by
    have tk := takes_of (X := cxOf (L2.CX P w) P w K mg base ["s", "things"] "_law_one" (defScope s_law_one) f cdv A outer s H E) (E := E) rfl rfl rfl rfl
    exact ⟨_, (sb_one (ss_ret (s_ix (s_v 1) (s_call D_law_pick hr tk (ar_cons (ar_cons ar_nil)) (sa_cons (s_v 0) (sa_cons (s_len m_len (sa_cons (s_v 1) sa_nil)) sa_nil))))))⟩

abbrev s_law_same : Stmt := topS 18
theorem sc_law_same : FnScope ["answer", "due", "fits", "key", "one", "other"] ["answer", "due"] (defScope s_law_same) := ⟨rfl, rfl, rfl, by decide +kernel, rfl, by decide +kernel, by decide +kernel⟩

theorem d_law_same_0 (t : TxtD K mg "_law_same" s_law_same ["answer", "due"]) (m_bool : mg "bool" = none) (m_int : mg "int" = none) (m_isinstance : mg "isinstance" = none) : Def P w K mg base T 1 "_law_same" ["answer", "due"] F_law_same_0 :=
  Def.of (N := ["answer", "due", "fits", "key", "one", "other"]) t sc_law_same fun f cdv A outer s H E hr => by
    have tk := takes_of (X := cxOf (L2.CX P w) P w K mg base ["answer", "due", "fits", "key", "one", "other"] "_law_same" (defScope s_law_same) f cdv A outer s H E) (E := E) rfl rfl rfl rfl
    exact ⟨_, (sb_cons (ss_if (st_isN (s_v 1)) (sb_one (ss_ret (s_isN (s_v 0)))) sb_nil) (sb_cons (ss_if (st_tru (s_isA .bool m_isinstance m_bool (s_v 1))) (sb_one (ss_ret (s_and (s_isA .bool m_isinstance m_bool (s_v 0)) (s_one (s_cmp (c_eq hr.units) (s_v 0) (s_v 1)))))) sb_nil) (sb_cons (ss_if (st_tru (s_isA .int m_isinstance m_int (s_v 1))) (sb_one (ss_ret (s_and (s_isA .int m_isinstance m_int (s_v 0)) (s_and (s_not (s_isA .bool m_isinstance m_bool (s_v 0))) (s_one (s_cmp (c_eq hr.units) (s_v 0) (s_v 1))))))) sb_nil) sb_no)))⟩

theorem d_law_same_1 (t : TxtD K mg "_law_same" s_law_same ["answer", "due"]) (m_all : mg "all" = none) (m_bool : mg "bool" = none) (m_dict : mg "dict" = none) (m_int : mg "int" = none) (m_isinstance : mg "isinstance" = none) (m_len : mg "len" = none) (m_list : mg "list" = none) (m_str : mg "str" = none) (m_tuple : mg "tuple" = none) (m_zip : mg "zip" = none) (D_law_same_0 : Def P w K mg base T 1 "_law_same" ["answer", "due"] F_law_same_0) : Def P w K mg base T 2 "_law_same" ["answer", "due"] F_law_same_1 :=
  Def.of (N := ["answer", "due", "fits", "key", "one", "other"]) t sc_law_same fun f cdv A outer s H E hr => by
    have tk := takes_of (X := cxOf (L2.CX P w) P w K mg base ["answer", "due", "fits", "key", "one", "other"] "_law_same" (defScope s_law_same) f cdv A outer s H E) (E := E) rfl rfl rfl rfl
    exact ⟨_, (sb_cons (ss_if (st_isN (s_v 1)) (sb_one (ss_ret (s_isN (s_v 0)))) sb_nil) (sb_cons (ss_if (st_tru (s_isA .bool m_isinstance m_bool (s_v 1))) (sb_one (ss_ret (s_and (s_isA .bool m_isinstance m_bool (s_v 0)) (s_one (s_cmp (c_eq hr.units) (s_v 0) (s_v 1)))))) sb_nil) (sb_cons (ss_if (st_tru (s_isA .int m_isinstance m_int (s_v 1))) (sb_one (ss_ret (s_and (s_isA .int m_isinstance m_int (s_v 0)) (s_and (s_not (s_isA .bool m_isinstance m_bool (s_v 0))) (s_one (s_cmp (c_eq hr.units) (s_v 0) (s_v 1))))))) sb_nil) (sb_cons (ss_if (st_tru (s_isA .str m_isinstance m_str (s_v 1))) (sb_one (ss_ret (s_and (s_isA .str m_isinstance m_str (s_v 0)) (s_one (s_cmp (c_eq hr.units) (s_v 0) (s_v 1)))))) sb_nil) (sb_cons (ss_if (st_tru (s_isA .dict m_isinstance m_dict (s_v 1))) sb_no sb_nil) (sb_cons (ss_if (st_tru (s_isA .tuple m_isinstance m_tuple (s_v 1))) (sb_one (ss_set 2 sc_law_same.nd (s_isA .tuple m_isinstance m_tuple (s_v 0)))) (sb_one (ss_set 2 sc_law_same.nd (s_isA .list m_isinstance m_list (s_v 0))))) (sb_one (ss_ret (s_and (s_v 2) (s_and (s_cmp (c_eq hr.units) (s_len m_len (sa_cons (s_v 0) sa_nil)) (s_len m_len (sa_cons (s_v 1) sa_nil))) (s_one (s_all rfl m_all (sa_cons (s_comp (own := [("one", 4), ("other", 5)]) rfl sc_law_same.nd (si_zip3 m_zip (sa_cons (s_v 0) (sa_cons (s_v 1) sa_nil))) (blkOk_by (N := ["answer", "due", "fits", "key", "one", "other"]) (sc := defScope s_law_same) (by decide +kernel)) (fun _ _ _ _ _ => by exact (sg_tup rfl (sgs_cons (sg_nm 4 sc_law_same.nd) (sgs_cons (sg_nm 5 sc_law_same.nd) sgs_nil)))) (fun _ _ _ _ _ => by exact sq_nil) (fun _ _ _ _ _ => by exact (s_call D_law_same_0 hr takes0 (ar_cons (ar_cons ar_nil)) (sa_cons (s_v 4) (sa_cons (s_v 5) sa_nil))))) sa_nil)))))))))))))⟩

theorem d_law_same_2 (t : TxtD K mg "_law_same" s_law_same ["answer", "due"]) (m_all : mg "all" = none) (m_bool : mg "bool" = none) (m_dict : mg "dict" = none) (m_int : mg "int" = none) (m_isinstance : mg "isinstance" = none) (m_len : mg "len" = none) (m_list : mg "list" = none) (m_str : mg "str" = none) (m_tuple : mg "tuple" = none) (m_zip : mg "zip" = none) (D_law_same_1 : Def P w K mg base T 2 "_law_same" ["answer", "due"] F_law_same_1) : Def P w K mg base T 3 "_law_same" ["answer", "due"] F_law_same_2 :=
  Def.of (N := ["answer", "due", "fits", "key", "one", "other"]) t sc_law_same fun f cdv A outer s H E hr => by
    have tk := takes_of (X := cxOf (L2.CX P w) P w K mg base ["answer", "due", "fits", "key", "one", "other"] "_law_same" (defScope s_law_same) f cdv A outer s H E) (E := E) rfl rfl rfl rfl
    exact ⟨_, (sb_cons (ss_if (st_isN (s_v 1)) (sb_one (ss_ret (s_isN (s_v 0)))) sb_nil) (sb_cons (ss_if (st_tru (s_isA .bool m_isinstance m_bool (s_v 1))) (sb_one (ss_ret (s_and (s_isA .bool m_isinstance m_bool (s_v 0)) (s_one (s_cmp (c_eq hr.units) (s_v 0) (s_v 1)))))) sb_nil) (sb_cons (ss_if (st_tru (s_isA .int m_isinstance m_int (s_v 1))) (sb_one (ss_ret (s_and (s_isA .int m_isinstance m_int (s_v 0)) (s_and (s_not (s_isA .bool m_isinstance m_bool (s_v 0))) (s_one (s_cmp (c_eq hr.units) (s_v 0) (s_v 1))))))) sb_nil) (sb_cons (ss_if (st_tru (s_isA .str m_isinstance m_str (s_v 1))) (sb_one (ss_ret (s_and (s_isA .str m_isinstance m_str (s_v 0)) (s_one (s_cmp (c_eq hr.units) (s_v 0) (s_v 1)))))) sb_nil) (sb_cons (ss_if (st_tru (s_isA .dict m_isinstance m_dict (s_v 1))) sb_no sb_nil) (sb_cons (ss_if (st_tru (s_isA .tuple m_isinstance m_tuple (s_v 1))) (sb_one (ss_set 2 sc_law_same.nd (s_isA .tuple m_isinstance m_tuple (s_v 0)))) (sb_one (ss_set 2 sc_law_same.nd (s_isA .list m_isinstance m_list (s_v 0))))) (sb_one (ss_ret (s_and (s_v 2) (s_and (s_cmp (c_eq hr.units) (s_len m_len (sa_cons (s_v 0) sa_nil)) (s_len m_len (sa_cons (s_v 1) sa_nil))) (s_one (s_all rfl m_all (sa_cons (s_comp (own := [("one", 4), ("other", 5)]) rfl sc_law_same.nd (si_zip3 m_zip (sa_cons (s_v 0) (sa_cons (s_v 1) sa_nil))) (blkOk_by (N := ["answer", "due", "fits", "key", "one", "other"]) (sc := defScope s_law_same) (by decide +kernel)) (fun _ _ _ _ _ => by exact (sg_tup rfl (sgs_cons (sg_nm 4 sc_law_same.nd) (sgs_cons (sg_nm 5 sc_law_same.nd) sgs_nil)))) (fun _ _ _ _ _ => by exact sq_nil) (fun _ _ _ _ _ => by exact (s_call D_law_same_1 hr takes0 (ar_cons (ar_cons ar_nil)) (sa_cons (s_v 4) (sa_cons (s_v 5) sa_nil))))) sa_nil)))))))))))))⟩

abbrev s_law_e_gcd : Stmt := topS 20
theorem sc_law_e_gcd : FnScope ["a", "b", "k"] ["a", "b"] (defScope s_law_e_gcd) := ⟨rfl, rfl, rfl, by decide +kernel, rfl, by decide +kernel, by decide +kernel⟩

theorem d_law_e_gcd (t : TxtD K mg "_law_e_gcd" s_law_e_gcd ["a", "b"]) (m_abs : mg "abs" = none) (m_int : mg "int" = none) (m_range : mg "range" = none) : Def P w K mg base T 1 "_law_e_gcd" ["a", "b"] F_law_e_gcd :=
  Def.of (N := ["a", "b", "k"]) t sc_law_e_gcd fun f cdv A outer s H E hr => by
    have tk := takes_of (X := cxOf (L2.CX P w) P w K mg base ["a", "b", "k"] "_law_e_gcd" (defScope s_law_e_gcd) f cdv A outer s H E) (E := E) rfl rfl rfl rfl
    exact ⟨_, (sb_cons (ss_par2 0 1 rfl sc_law_e_gcd.nd (s_abs m_abs (sa_cons (s_v 0) sa_nil)) (s_abs m_abs (sa_cons (s_v 1) sa_nil))) (sb_cons (ss_for (passes_of rfl) rfl (si_range1 m_range (sa_cons s_int sa_nil)) (sg_nm 2 sc_law_e_gcd.nd) (sb_cons (ss_if (st_cmp (c_eq hr.units) (s_v 1) s_int) (sb_one (ss_ret (s_own 0))) sb_nil) (sb_one (ss_par2 0 1 rfl sc_law_e_gcd.nd (s_v 1) (s_mod (s_int1 m_int (sa_cons (s_v 0) sa_nil)) (s_v 1)))))) (sb_one (ss_ret (s_own 0)))))⟩

abbrev s_law_e_shifts : Stmt := topS 21
theorem sc_law_e_shifts : FnScope ["a", "b", "one", "other"] ["a", "b"] (defScope s_law_e_shifts) := ⟨rfl, rfl, rfl, by decide +kernel, rfl, by decide +kernel, by decide +kernel⟩

theorem d_law_e_shifts (t : TxtD K mg "_law_e_shifts" s_law_e_shifts ["a", "b"]) (m_zip : mg "zip" = none) : Def P w K mg base T 1 "_law_e_shifts" ["a", "b"] F_law_e_shifts :=
  Def.of (N := ["a", "b", "one", "other"]) t sc_law_e_shifts fun f cdv A outer s H E hr => by
    have tk := takes_of (X := cxOf (L2.CX P w) P w K mg base ["a", "b", "one", "other"] "_law_e_shifts" (defScope s_law_e_shifts) f cdv A outer s H E) (E := E) rfl rfl rfl rfl
    exact ⟨_, (sb_one (ss_ret (s_comp (own := [("one", 2), ("other", 3)]) rfl sc_law_e_shifts.nd (si_zip2 m_zip (sa_cons (s_v 0) (sa_cons (s_v 1) sa_nil))) (blkOk_by (N := ["a", "b", "one", "other"]) (sc := defScope s_law_e_shifts) (by decide +kernel)) (fun _ _ _ _ _ => by exact (sg_tup rfl (sgs_cons (sg_nm 2 sc_law_e_shifts.nd) (sgs_cons (sg_nm 3 sc_law_e_shifts.nd) sgs_nil)))) (fun _ _ _ _ _ => by exact sq_nil) (fun _ _ _ _ _ => by exact (s_sub (s_v 2) (s_v 3))))))⟩

abbrev s_law_e_grain : Stmt := topS 22
theorem sc_law_e_grain : FnScope ["a", "b", "one", "shifts", "told"] ["a", "b"] (defScope s_law_e_grain) := ⟨rfl, rfl, rfl, by decide +kernel, rfl, by decide +kernel, by decide +kernel⟩

theorem d_law_e_grain (t : TxtD K mg "_law_e_grain" s_law_e_grain ["a", "b"]) (D_law_e_shifts : Def P w K mg base T 1 "_law_e_shifts" ["a", "b"] F_law_e_shifts) (D_law_e_gcd : Def P w K mg base T 1 "_law_e_gcd" ["a", "b"] F_law_e_gcd) : Def P w K mg base T 2 "_law_e_grain" ["a", "b"] F_law_e_grain :=
  Def.of (N := ["a", "b", "one", "shifts", "told"]) t sc_law_e_grain fun f cdv A outer s H E hr => by
    have tk := takes_of (X := cxOf (L2.CX P w) P w K mg base ["a", "b", "one", "shifts", "told"] "_law_e_grain" (defScope s_law_e_grain) f cdv A outer s H E) (E := E) rfl rfl rfl rfl
    exact ⟨_, (sb_cons (ss_par2 3 4 rfl sc_law_e_grain.nd (s_call D_law_e_shifts hr tk (ar_cons (ar_cons ar_nil)) (sa_cons (s_v 0) (sa_cons (s_v 1) sa_nil))) s_int) (sb_cons (ss_for (passes_of rfl) rfl (si_any (s_v 3)) (sg_nm 2 sc_law_e_grain.nd) (sb_one (ss_set 4 sc_law_e_grain.nd (s_call D_law_e_gcd hr tk (ar_cons (ar_cons ar_nil)) (sa_cons (s_v 4) (sa_cons (s_sub (s_v 2) (s_ix (s_v 3) (s_neg s_int))) sa_nil)))))) (sb_one (ss_ret (s_own 4)))))⟩

abbrev s_law_e_meets : Stmt := topS 23
theorem sc_law_e_meets : FnScope ["a", "b", "step", "last"] ["a", "b"] (defScope s_law_e_meets) := ⟨rfl, rfl, rfl, by decide +kernel, rfl, by decide +kernel, by decide +kernel⟩

theorem d_law_e_meets (t : TxtD K mg "_law_e_meets" s_law_e_meets ["a", "b"]) (m_int : mg "int" = none) (D_law_e_grain : Def P w K mg base T 2 "_law_e_grain" ["a", "b"] F_law_e_grain) : Def P w K mg base T 3 "_law_e_meets" ["a", "b"] F_law_e_meets :=
  Def.of (N := ["a", "b", "step", "last"]) t sc_law_e_meets fun f cdv A outer s H E hr => by
    have tk := takes_of (X := cxOf (L2.CX P w) P w K mg base ["a", "b", "step", "last"] "_law_e_meets" (defScope s_law_e_meets) f cdv A outer s H E) (E := E) rfl rfl rfl rfl
    exact ⟨_, (sb_cons (ss_par2 2 3 rfl sc_law_e_meets.nd (s_call D_law_e_grain hr tk (ar_cons (ar_cons ar_nil)) (sa_cons (s_v 0) (sa_cons (s_v 1) sa_nil))) (s_sub (s_ix (s_v 0) (s_neg s_int)) (s_ix (s_v 1) (s_neg s_int)))) (sb_one (ss_ret (s_if (st_cmp (c_eq hr.units) (s_v 2) s_int) (s_cmp (c_eq hr.units) (s_v 3) s_int) (s_cmp (c_eq hr.units) (s_mod (s_int1 m_int (sa_cons (s_v 3) sa_nil)) (s_v 2)) s_int)))))⟩

abbrev s_law_e_reach : Stmt := topS 25
theorem sc_law_e_reach : FnScope ["lines", "start", "turn", "near", "found", "rim", "a", "b", "row", "wider"] ["lines", "start"] (defScope s_law_e_reach) := ⟨rfl, rfl, rfl, by decide +kernel, rfl, by decide +kernel, by decide +kernel⟩

theorem d_law_e_reach (t : TxtD K mg "_law_e_reach" s_law_e_reach ["lines", "start"]) (m_len : mg "len" = none) (m_range : mg "range" = none) : Def P w K mg base T 1 "_law_e_reach" ["lines", "start"] F_law_e_reach :=
  Def.of (N := ["lines", "start", "turn", "near", "found", "rim", "a", "b", "row", "wider"]) t sc_law_e_reach fun f cdv A outer s H E hr => by
    have tk := takes_of (X := cxOf (L2.CX P w) P w K mg base ["lines", "start", "turn", "near", "found", "rim", "a", "b", "row", "wider"] "_law_e_reach" (defScope s_law_e_reach) f cdv A outer s H E) (E := E) rfl rfl rfl rfl
    exact ⟨_, (sb_cons (ss_par3 3 4 5 rfl sc_law_e_reach.nd s_tnew (s_dispT (hu_of hr) (s_v 1) s_int) (s_lst (sa_cons (s_v 1) sa_nil))) (sb_cons (ss_for (passes_of rfl) rfl (si_any (s_v 0)) (sg_tup rfl (sgs_cons (sg_nm 6 sc_law_e_reach.nd) (sgs_cons (sg_nm 7 sc_law_e_reach.nd) sgs_nil))) (sb_cons (ss_set 8 sc_law_e_reach.nd (s_tsetd (hu_of hr) (s_v 3) (s_v 6) m2_)) (sb_cons (ss_appC (s_v 8) (s_v 7)) (sb_cons (ss_set 8 sc_law_e_reach.nd (s_tsetd (hu_of hr) (s_v 3) (s_v 7) m2_)) (sb_one (ss_appC (s_v 8) (s_v 6))))))) (sb_cons (ss_for (passes_of rfl) rfl (si_range1 m_range (sa_cons (s_add (s_len m_len (sa_cons (s_v 0) sa_nil)) s_int) sa_nil)) (sg_nm 2 sc_law_e_reach.nd) (sb_cons (ss_set 9 sc_law_e_reach.nd (s_lst sa_nil)) (sb_cons (ss_for (passes_of rfl) rfl (si_any (s_v 5)) (sg_nm 6 sc_law_e_reach.nd) (sb_one (ss_forC fuel (passes_of rfl) rfl (s_tget2 (hu_of hr) (s_v 3) (s_v 6) (s_lst sa_nil) m2_) (sg_nm 7 sc_law_e_reach.nd) (sb_one (ss_if (st_tnotIn (hu_of hr) (s_v 7) (s_v 4)) (sb_cons (ss_tput (hu_of hr) (s_v 4) (s_v 7) (s_add (s_v 2) s_int)) (sb_one (ss_app 9 (s_v 7)))) sb_nil))))) (sb_cons (ss_set 5 sc_law_e_reach.nd (s_v 9)) (sb_one (ss_if (st_not (st_tru (s_v 5))) (sb_one ss_break) sb_nil)))))) (sb_one (ss_ret (s_own 4))))))⟩

abbrev s_law_e_draw : Stmt := topS 26
theorem sc_law_e_draw : FnScope ["s", "times", "step", "base", "far", "style", "top", "a", "b"] ["s"] (defScope s_law_e_draw) := ⟨rfl, rfl, rfl, by decide +kernel, rfl, by decide +kernel, by decide +kernel⟩

theorem d_law_e_draw (t : TxtD K mg "_law_e_draw" s_law_e_draw ["s"]) (m_list : mg "list" = none) (D_law_pick : Def P w K mg base T 1 "_law_pick" ["s", "many"] F_law_pick) (D_law_one : Def P w K mg base T 2 "_law_one" ["s", "things"] F_law_one) (D_law_within : Def P w K mg base T 2 "_law_within" ["s", "low", "high"] F_law_within) : Def P w K mg base T 3 "_law_e_draw" ["s"] F_law_e_draw :=
  Def.of (N := ["s", "times", "step", "base", "far", "style", "top", "a", "b"]) t sc_law_e_draw fun f cdv A outer s H E hr => by
    have tk := takes_of (X := cxOf (L2.CX P w) P w K mg base ["s", "times", "step", "base", "far", "style", "top", "a", "b"] "_law_e_draw" (defScope s_law_e_draw) f cdv A outer s H E) (E := E) rfl rfl rfl rfl
    exact ⟨_, (sb_cons (ss_par2 5 6 rfl sc_law_e_draw.nd (s_call D_law_pick hr tk (ar_cons (ar_cons ar_nil)) (sa_cons (s_v 0) (sa_cons s_int sa_nil))) (s_call D_law_one hr tk (ar_cons (ar_cons ar_nil)) (sa_cons (s_v 0) (sa_cons (s_lst (sa_cons s_int (sa_cons s_int (sa_cons s_int sa_nil)))) sa_nil)))) (sb_cons (ss_if (st_cmp (c_eq hr.units) (s_v 5) s_int) (sb_one (ss_ret (s_tup (sa_cons (s_lst (sa_cons (s_call D_law_pick hr tk (ar_cons (ar_cons ar_nil)) (sa_cons (s_v 0) (sa_cons s_int sa_nil))) (sa_cons (s_call D_law_pick hr tk (ar_cons (ar_cons ar_nil)) (sa_cons (s_v 0) (sa_cons s_int sa_nil))) sa_nil))) (sa_cons (s_lst (sa_cons (s_call D_law_pick hr tk (ar_cons (ar_cons ar_nil)) (sa_cons (s_v 0) (sa_cons s_int sa_nil))) (sa_cons (s_call D_law_pick hr tk (ar_cons (ar_cons ar_nil)) (sa_cons (s_v 0) (sa_cons s_int sa_nil))) sa_nil))) sa_nil))))) sb_nil) (sb_cons (ss_if (st_cmp (c_eq hr.units) (s_v 5) s_int) (sb_cons (ss_set 7 sc_law_e_draw.nd (s_lst (sa_cons (s_call D_law_pick hr tk (ar_cons (ar_cons ar_nil)) (sa_cons (s_v 0) (sa_cons (s_add (s_v 6) s_int) sa_nil))) (sa_cons (s_call D_law_pick hr tk (ar_cons (ar_cons ar_nil)) (sa_cons (s_v 0) (sa_cons (s_add (s_v 6) s_int) sa_nil))) sa_nil)))) (sb_cons (ss_set 8 sc_law_e_draw.nd (s_list m_list (sa_cons (s_v 7) sa_nil))) (sb_cons (ss_if (st_tru (s_call D_law_pick hr tk (ar_cons (ar_cons ar_nil)) (sa_cons (s_v 0) (sa_cons s_int sa_nil)))) (sb_one (ss_ixput 8 (hb := (s_call D_law_pick hr tk (ar_cons (ar_cons ar_nil)) (sa_cons (s_v 0) (sa_cons s_int sa_nil)))) (hc := (s_call D_law_pick hr tk (ar_cons (ar_cons ar_nil)) (sa_cons (s_v 0) (sa_cons (s_add (s_v 6) s_int) sa_nil)))))) sb_nil) (sb_one (ss_ret (s_tup (sa_cons (s_v 7) (sa_cons (s_v 8) sa_nil)))))))) sb_nil) (sb_cons (ss_set 1 sc_law_e_draw.nd (s_call D_law_within hr tk (ar_cons (ar_cons (ar_cons ar_nil))) (sa_cons (s_v 0) (sa_cons s_int (sa_cons (s_call D_law_one hr tk (ar_cons (ar_cons ar_nil)) (sa_cons (s_v 0) (sa_cons (s_lst (sa_cons s_int (sa_cons (s_sub (s_div (s_v 6) s_int) s_int) sa_nil))) sa_nil))) sa_nil))))) (sb_cons (ss_set 2 sc_law_e_draw.nd (s_call D_law_within hr tk (ar_cons (ar_cons (ar_cons ar_nil))) (sa_cons (s_v 0) (sa_cons s_int (sa_cons (s_div (s_v 6) (s_add (s_v 1) s_int)) sa_nil))))) (sb_cons (ss_set 3 sc_law_e_draw.nd (s_lst (sa_cons (s_call D_law_pick hr tk (ar_cons (ar_cons ar_nil)) (sa_cons (s_v 0) (sa_cons (s_add (s_sub (s_v 6) (s_mul (s_v 1) (s_v 2))) s_int) sa_nil))) (sa_cons (s_call D_law_pick hr tk (ar_cons (ar_cons ar_nil)) (sa_cons (s_v 0) (sa_cons (s_add (s_sub (s_v 6) (s_mul (s_add (s_v 1) s_int) (s_v 2))) s_int) sa_nil))) sa_nil)))) (sb_cons (ss_set 4 sc_law_e_draw.nd (s_lst (sa_cons (s_add (s_ix (s_v 3) s_int) (s_mul (s_v 1) (s_v 2))) (sa_cons (s_add (s_ix (s_v 3) s_int) (s_mul (s_add (s_v 1) s_int) (s_v 2))) sa_nil)))) (sb_cons (ss_if (st_cmp (c_eq hr.units) (s_v 5) s_int) (sb_one (ss_ixput 4 (hb := s_int) (hc := (s_call D_law_pick hr tk (ar_cons (ar_cons ar_nil)) (sa_cons (s_v 0) (sa_cons (s_add (s_v 6) s_int) sa_nil)))))) sb_nil) (sb_cons (ss_get (s_if (st_tru (s_call D_law_pick hr tk (ar_cons (ar_cons ar_nil)) (sa_cons (s_v 0) (sa_cons s_int sa_nil)))) (s_tup (sa_cons (s_v 3) (sa_cons (s_v 4) sa_nil))) (s_tup (sa_cons (s_v 4) (sa_cons (s_v 3) sa_nil)))) (sg_tup rfl (sgs_cons (sg_nm 7 sc_law_e_draw.nd) (sgs_cons (sg_nm 8 sc_law_e_draw.nd) sgs_nil)))) (sb_cons (ss_if (st_tru (s_call D_law_pick hr tk (ar_cons (ar_cons ar_nil)) (sa_cons (s_v 0) (sa_cons s_int sa_nil)))) (sb_one (ss_par2 7 8 rfl sc_law_e_draw.nd (s_lst (sa_cons (s_ix (s_v 7) s_int) (sa_cons (s_ix (s_v 7) s_int) sa_nil))) (s_lst (sa_cons (s_ix (s_v 8) s_int) (sa_cons (s_ix (s_v 8) s_int) sa_nil))))) sb_nil) (sb_one (ss_ret (s_tup (sa_cons (s_v 7) (sa_cons (s_v 8) sa_nil)))))))))))))))⟩

abbrev s_law_e_due : Stmt := topS 27
theorem sc_law_e_due : FnScope ["a", "b", "zero", "i", "turn", "j", "cell", "looks", "there"] ["a", "b"] (defScope s_law_e_due) := ⟨rfl, rfl, rfl, by decide +kernel, rfl, by decide +kernel, by decide +kernel⟩

theorem d_law_e_due (t : TxtD K mg "_law_e_due" s_law_e_due ["a", "b"]) (m_abs : mg "abs" = none) (m_min : mg "min" = none) (m_range : mg "range" = none) (m_sorted : mg "sorted" = none) : Def P w K mg base T 1 "_law_e_due" ["a", "b"] F_law_e_due :=
  Def.of (N := ["a", "b", "zero", "i", "turn", "j", "cell", "looks", "there"]) t sc_law_e_due fun f cdv A outer s H E hr => by
    have tk := takes_of (X := cxOf (L2.CX P w) P w K mg base ["a", "b", "zero", "i", "turn", "j", "cell", "looks", "there"] "_law_e_due" (defScope s_law_e_due) f cdv A outer s H E) (E := E) rfl rfl rfl rfl
    exact ⟨_, (sb_cons (ss_comp (i := 2) (own := [("i", 3)]) rfl sc_law_e_due.nd (si_range1 m_range (sa_cons s_int sa_nil)) (blkOk_by (N := ["a", "b", "zero", "i", "turn", "j", "cell", "looks", "there"]) (sc := defScope s_law_e_due) (by decide +kernel)) (fun _ _ _ _ _ => by exact (sg_nm 3 sc_law_e_due.nd)) (fun _ _ _ _ _ => by exact (sq_one (st_cmp (c_eq hr.units) (s_ix (s_v 0) (s_v 3)) (s_ix (s_v 1) (s_v 3))))) (fun _ _ _ _ _ => by exact (s_v 3))) (sb_cons (ss_if (st_tru (s_v 2)) (sb_one (ss_ret (s_lst (sa_cons (s_revT (s_minL rfl (hu65 hr) m_min (sa_cons (s_comp (own := [("i", 3)]) rfl sc_law_e_due.nd (si_any (s_v 2)) (blkOk_by (N := ["a", "b", "zero", "i", "turn", "j", "cell", "looks", "there"]) (sc := defScope s_law_e_due) (by decide +kernel)) (fun _ _ _ _ _ => by exact (sg_nm 3 sc_law_e_due.nd)) (fun _ _ _ _ _ => by exact sq_nil) (fun _ _ _ _ _ => by exact (s_tup (sa_cons (s_ix (s_v 0) (s_v 3)) (sa_cons (s_v 3) sa_nil))))) sa_nil))) sa_nil)))) sb_nil) (sb_cons (ss_for (passes_of rfl) rfl (si_range1 m_range (sa_cons s_int sa_nil)) (sg_nm 3 sc_law_e_due.nd) (sb_cons (ss_par3 5 6 7 rfl sc_law_e_due.nd (s_sub s_int (s_v 3)) s_int (s_lst sa_nil)) (sb_one (ss_for (passes_of rfl) rfl (si_range1 m_range (sa_cons s_int sa_nil)) (sg_nm 4 sc_law_e_due.nd) (sb_cons (ss_app 7 (s_tup (sa_cons (s_v 3) (sa_cons (s_add (s_v 6) (s_ix (s_v 0) (s_v 3))) sa_nil)))) (sb_cons (ss_set 8 sc_law_e_due.nd (s_sub (s_add (s_v 6) (s_ix (s_v 0) (s_v 3))) (s_ix (s_v 1) (s_v 3)))) (sb_cons (ss_if (st_cmp (c_eq hr.units) (s_v 8) s_int) (sb_one (ss_ret (s_sorted (hu65 hr) m_sorted (sa_cons (s_v 7) sa_nil)))) sb_nil) (sb_cons (ss_app 7 (s_tup (sa_cons (s_v 5) (sa_cons (s_add (s_v 8) (s_ix (s_v 1) (s_v 5))) sa_nil)))) (sb_cons (ss_set 6 sc_law_e_due.nd (s_sub (s_add (s_v 8) (s_ix (s_v 1) (s_v 5))) (s_ix (s_v 0) (s_v 5)))) (sb_one (ss_if (st_cmp c_gt (s_abs m_abs (sa_cons (s_v 6) sa_nil)) s_int) (sb_one ss_break) sb_nil))))))))))) (sb_one (ss_ret s_non)))))⟩

abbrev s_law_e_lines : Stmt := topS 28
theorem sc_law_e_lines : FnScope ["a", "b", "far", "left", "lines", "i", "beat"] ["a", "b", "far", "left"] (defScope s_law_e_lines) := ⟨rfl, rfl, rfl, by decide +kernel, rfl, by decide +kernel, by decide +kernel⟩

theorem d_law_e_lines (t : TxtD K mg "_law_e_lines" s_law_e_lines ["a", "b", "far", "left"]) (m_range : mg "range" = none) : Def P w K mg base T 1 "_law_e_lines" ["a", "b", "far", "left"] F_law_e_lines :=
  Def.of (N := ["a", "b", "far", "left", "lines", "i", "beat"]) t sc_law_e_lines fun f cdv A outer s H E hr => by
    have tk := takes_of (X := cxOf (L2.CX P w) P w K mg base ["a", "b", "far", "left", "lines", "i", "beat"] "_law_e_lines" (defScope s_law_e_lines) f cdv A outer s H E) (E := E) rfl rfl rfl rfl
    exact ⟨_, (sb_cons (ss_set 4 sc_law_e_lines.nd (s_lst sa_nil)) (sb_cons (ss_for (passes_of rfl) rfl (si_range1 m_range (sa_cons s_int sa_nil)) (sg_nm 5 sc_law_e_lines.nd) (sb_one (ss_for (passes_of rfl) rfl (si_range2 m_range (sa_cons (s_neg (s_v 2)) (sa_cons (s_add (s_v 2) s_int) sa_nil))) (sg_nm 6 sc_law_e_lines.nd) (sb_one (ss_if (st_cmp (c_ne hr.units) (s_tup (sa_cons (s_v 5) (sa_cons (s_v 6) sa_nil))) (s_v 3)) (sb_one (ss_app 4 (s_tup (sa_cons (s_tup (sa_cons s_int (sa_cons (s_sub (s_v 6) (s_ix (s_v 0) (s_v 5))) sa_nil))) (sa_cons (s_tup (sa_cons s_int (sa_cons (s_sub (s_v 6) (s_ix (s_v 1) (s_v 5))) sa_nil))) sa_nil))))) sb_nil))))) (sb_one (ss_ret (s_own 4)))))⟩

abbrev s_law_e_joins : Stmt := topS 29
theorem sc_law_e_joins : FnScope ["lines"] ["lines"] (defScope s_law_e_joins) := ⟨rfl, rfl, rfl, by decide +kernel, rfl, by decide +kernel, by decide +kernel⟩

theorem d_law_e_joins (t : TxtD K mg "_law_e_joins" s_law_e_joins ["lines"]) (D_law_e_reach : Def P w K mg base T 1 "_law_e_reach" ["lines", "start"] F_law_e_reach) : Def P w K mg base T 2 "_law_e_joins" ["lines"] F_law_e_joins :=
  Def.of (N := ["lines"]) t sc_law_e_joins fun f cdv A outer s H E hr => by
    have tk := takes_of (X := cxOf (L2.CX P w) P w K mg base ["lines"] "_law_e_joins" (defScope s_law_e_joins) f cdv A outer s H E) (E := E) rfl rfl rfl rfl
    exact ⟨_, (sb_one (ss_ret (s_tin (hu_of hr) (s_tup (sa_cons s_int (sa_cons s_int sa_nil))) (s_call D_law_e_reach hr tk (ar_cons (ar_cons ar_nil)) (sa_cons (s_v 0) (sa_cons (s_tup (sa_cons s_int (sa_cons s_int sa_nil))) sa_nil))))))⟩

abbrev s_law_e_answers : Stmt := topS 30
theorem sc_law_e_answers : FnScope ["a", "b", "told", "beats", "look", "due", "one", "other"] ["a", "b"] (defScope s_law_e_answers) := ⟨rfl, rfl, rfl, by decide +kernel, rfl, by decide +kernel, by decide +kernel⟩

theorem d_law_e_answers (t : TxtD K mg "_law_e_answers" s_law_e_answers ["a", "b"]) (m_list : mg "list" = none) (m_max : mg "max" = none) (m_min : mg "min" = none) (D_law_e_due : Def P w K mg base T 1 "_law_e_due" ["a", "b"] F_law_e_due) (D_two_routes : Def P w K mg base T 5 "two_routes" ["a", "b"] F_two_routes) (D_law_same_2 : Def P w K mg base T 3 "_law_same" ["answer", "due"] F_law_same_2) (D_law_e_meets : Def P w K mg base T 3 "_law_e_meets" ["a", "b"] F_law_e_meets) (D_law_e_lines : Def P w K mg base T 1 "_law_e_lines" ["a", "b", "far", "left"] F_law_e_lines) (D_law_e_joins : Def P w K mg base T 2 "_law_e_joins" ["lines"] F_law_e_joins) (D_route_lag : Def P w K mg base T 3 "route_lag" ["looks"] F_route_lag) : Def P w K mg base T 6 "_law_e_answers" ["a", "b"] F_law_e_answers :=
  Def.of (N := ["a", "b", "told", "beats", "look", "due", "one", "other"]) t sc_law_e_answers fun f cdv A outer s H E hr => by
    have tk := takes_of (X := cxOf (L2.CX P w) P w K mg base ["a", "b", "told", "beats", "look", "due", "one", "other"] "_law_e_answers" (defScope s_law_e_answers) f cdv A outer s H E) (E := E) rfl rfl rfl rfl
    exact ⟨_, (sb_cons (ss_par3 5 6 7 rfl sc_law_e_answers.nd (s_call D_law_e_due hr tk (ar_cons (ar_cons ar_nil)) (sa_cons (s_v 0) (sa_cons (s_v 1) sa_nil))) (s_list m_list (sa_cons (s_v 0) sa_nil)) (s_list m_list (sa_cons (s_v 1) sa_nil))) (sb_cons (ss_set 2 sc_law_e_answers.nd (s_call D_two_routes hr tk (ar_cons (ar_cons ar_nil)) (sa_cons (s_v 6) (sa_cons (s_v 7) sa_nil)))) (sb_cons (ss_if (st_w (sw_or (st_not (st_tru (s_keep (s_call D_law_same_2 hr tk (ar_cons (ar_cons ar_nil)) (sa_cons (s_v 2) (sa_cons (s_v 5) sa_nil)))))) (sw_or (st_cmp (c_ne hr.units) (s_v 6) (s_v 0)) (sw_or1 (st_cmp (c_ne hr.units) (s_v 7) (s_v 1)))))) (sb_one (ss_ret s_bl)) sb_nil) (sb_cons (ss_if (st_cmp (c_ne hr.units) (s_notN (s_v 5)) (s_call D_law_e_meets hr tk (ar_cons (ar_cons ar_nil)) (sa_cons (s_v 0) (sa_cons (s_v 1) sa_nil)))) (sb_one (ss_ret s_bl)) sb_nil) (sb_cons (ss_if (st_w (sw_and (st_cmp c_le (s_maxL rfl (hu65 hr) m_max (sa_cons (s_add (s_v 0) (s_v 1)) sa_nil)) s_int) (sw_and1 (st_cmp (c_ne hr.units) (s_call D_law_e_joins hr tk (ar_cons ar_nil) (sa_cons (s_call D_law_e_lines hr tk (ar_cons (ar_cons (ar_cons (ar_cons ar_nil)))) (sa_cons (s_v 0) (sa_cons (s_v 1) (sa_cons s_int (sa_cons s_non sa_nil))))) sa_nil)) (s_notN (s_v 5)))))) (sb_one (ss_ret s_bl)) sb_nil) (sb_cons (ss_if (st_isN (s_v 5)) (sb_one (ss_ret s_bl)) sb_nil) (sb_cons (ss_comp (i := 3) (own := [("look", 4)]) rfl sc_law_e_answers.nd (si_any (s_v 5)) (blkOk_by (N := ["a", "b", "told", "beats", "look", "due", "one", "other"]) (sc := defScope s_law_e_answers) (by decide +kernel)) (fun _ _ _ _ _ => by exact (sg_nm 4 sc_law_e_answers.nd)) (fun _ _ _ _ _ => by exact sq_nil) (fun _ _ _ _ _ => by exact (s_ix (s_v 4) s_int))) (sb_cons (ss_if (st_not (st_tru (s_keep (s_call D_law_same_2 hr tk (ar_cons (ar_cons ar_nil)) (sa_cons (s_call D_route_lag hr tk (ar_cons ar_nil) (sa_cons (s_v 2) sa_nil)) (sa_cons (s_tup (sa_cons (s_maxL rfl (hu65 hr) m_max (sa_cons (s_v 3) sa_nil)) (sa_cons (s_add (s_sub (s_maxL rfl (hu65 hr) m_max (sa_cons (s_v 3) sa_nil)) (s_minL rfl (hu65 hr) m_min (sa_cons (s_v 3) sa_nil))) s_int) sa_nil))) sa_nil)))))) (sb_one (ss_ret s_bl)) sb_nil) (sb_cons (ss_for (passes_of rfl) rfl (si_any (s_v 5)) (sg_nm 4 sc_law_e_answers.nd) (sb_cons (ss_if (st_w (sw_and (st_cmp (c_ne hr.units) (s_v 0) (s_v 1)) (sw_and (st_cmp c_le (s_maxL rfl (hu65 hr) m_max (sa_cons (s_add (s_v 0) (s_v 1)) sa_nil)) s_int) (sw_and1 (st_tru (s_call D_law_e_joins hr tk (ar_cons ar_nil) (sa_cons (s_call D_law_e_lines hr tk (ar_cons (ar_cons (ar_cons (ar_cons ar_nil)))) (sa_cons (s_v 0) (sa_cons (s_v 1) (sa_cons s_int (sa_cons (s_v 4) sa_nil))))) sa_nil))))))) (sb_one (ss_ret s_bl)) sb_nil) (sb_one (ss_if (st_cmp c_lt (s_ix (s_v 4) s_int) s_int) (sb_one (ss_ret s_bl)) sb_nil)))) (sb_cons (ss_app 2 (s_tup (sa_cons s_int (sa_cons s_int sa_nil)))) (sb_one (ss_ret (s_and (s_call D_law_same_2 hr tk (ar_cons (ar_cons ar_nil)) (sa_cons (s_call D_two_routes hr tk (ar_cons (ar_cons ar_nil)) (sa_cons (s_v 0) (sa_cons (s_v 1) sa_nil))) (sa_cons (s_v 5) sa_nil))) (s_one (s_or (s_cmp c_gt (s_maxL rfl (hu65 hr) m_max (sa_cons (s_add (s_v 0) (s_v 1)) sa_nil)) s_int) (s_one (s_call D_law_e_joins hr tk (ar_cons ar_nil) (sa_cons (s_call D_law_e_lines hr tk (ar_cons (ar_cons (ar_cons (ar_cons ar_nil)))) (sa_cons (s_v 0) (sa_cons (s_v 1) (sa_cons s_int (sa_cons s_non sa_nil))))) sa_nil))))))))))))))))))⟩

abbrev s_law_e_refusals : Stmt := topS 31
theorem sc_law_e_refusals : FnScope ["s", "a", "b", "at", "rows", "low", "far", "one", "other", "due"] ["s", "a", "b"] (defScope s_law_e_refusals) := ⟨rfl, rfl, rfl, by decide +kernel, rfl, by decide +kernel, by decide +kernel⟩

theorem d_law_e_refusals {c0 P0 CS fF : Addr} {fdF : FuncData} (t : TxtC K mg "_law_e_refusals" s_law_e_refusals ["s", "a", "b"] c0) (m_list : mg "list" = none) (D_law_pick : Def P w K mg base T 1 "_law_pick" ["s", "many"] F_law_pick) (D_two_routes : Def P w K mg base T 5 "two_routes" ["a", "b"] F_two_routes) (D_route_lag : Def P w K mg base T 3 "route_lag" ["looks"] F_route_lag) (t_law_e_raised : TxtD K mg "_law_e_raised" s_law_e_raised ["call"]) (Ff : FnP P w K mg base 1 fF fdF ["error"] (spF K (GAll T SUB "other" CLS))) (hmf : mg "_law_fault" = some (.ref fF)) (hkf : PySem.W.keepIn K (.ref fF) = true) (hbf : L2.Binds K fdF ["error"] []) (hme : mg "FitsError" = some (.ref CS)) (TB : LamX.TabB base mg c0 P0) (nd : ([P0] : List Addr).Nodup) (hsub : ∀ cn C, T cn = some C → PySem.W.exmOne K (.ref C) (.ref CS) = some true) : Def P w K mg base T 8 "_law_e_refusals" ["s", "a", "b"] (F_law_e_refusals P0) :=
  Def.ofC (N := ["s", "a", "b", "at", "rows", "low", "far", "one", "other", "due"]) t sc_law_e_refusals fun f A outer s H E hr => by
    have tk := takes_of (X := cxOf (L2.CX P w) P w K mg base ["s", "a", "b", "at", "rows", "low", "far", "one", "other", "due"] "_law_e_refusals" (defScope s_law_e_refusals) f (.ref c0) A outer s H E) (E := E) rfl rfl rfl rfl
    exact ⟨_, (sb_cons (ss_set 3 sc_law_e_refusals.nd (s_call D_law_pick hr tk (ar_cons (ar_cons ar_nil)) (sa_cons (s_v 0) (sa_cons s_int sa_nil)))) (sb_cons (ss_par2 5 6 rfl sc_law_e_refusals.nd (s_list m_list (sa_cons (s_v 1) sa_nil)) (s_list m_list (sa_cons (s_v 2) sa_nil))) (sb_cons (ss_ixput2 5 6 rfl (ha := (s_v 3)) (hb := (s_v 3)) (hc := (s_tup (sa_cons (s_neg s_int) (sa_cons s_int sa_nil))))) (sb_cons (ss_set 4 sc_law_e_refusals.nd (s_lst (sa_cons (s_tup (sa_cons (s_v 5) (sa_cons (s_v 2) (sa_cons (s_tup (sa_cons s_str (sa_cons s_str sa_nil))) sa_nil)))) (sa_cons (s_tup (sa_cons (s_v 1) (sa_cons (s_v 6) (sa_cons (s_tup (sa_cons s_str sa_nil)) sa_nil)))) (sa_cons (s_tup (sa_cons (s_add (s_v 1) (s_lst (sa_cons s_int sa_nil))) (sa_cons (s_add (s_v 2) (s_lst (sa_cons s_int sa_nil))) (sa_cons (s_tup (sa_cons s_str (sa_cons s_str sa_nil))) sa_nil)))) sa_nil))))) (sb_cons (ss_set 4 sc_law_e_refusals.nd (s_add (s_v 4) (s_lst (sa_cons (s_tup (sa_cons (s_slL (s_v 1) so_none (so_some s_int)) (sa_cons (s_slL (s_v 2) so_none (so_some s_int)) (sa_cons (s_tup (sa_cons s_str (sa_cons s_str sa_nil))) sa_nil)))) (sa_cons (s_tup (sa_cons (s_v 1) (sa_cons (s_slL (s_v 2) so_none (so_some s_int)) (sa_cons (s_tup (sa_cons s_str (sa_cons s_str sa_nil))) sa_nil)))) (sa_cons (s_tup (sa_cons (s_lst (sa_cons s_int (sa_cons s_int sa_nil))) (sa_cons (s_lst (sa_cons s_int (sa_cons s_int sa_nil))) (sa_cons (s_tup (sa_cons s_str sa_nil)) sa_nil)))) sa_nil)))))) (sb_cons (ss_for (passes_of rfl) rfl (si_any (s_v 4)) (sg_tup rfl (sgs_cons (sg_nm 7 sc_law_e_refusals.nd) (sgs_cons (sg_nm 8 sc_law_e_refusals.nd) (sgs_cons (sg_nm 9 sc_law_e_refusals.nd) sgs_nil)))) (sb_one (ss_if (st_cmp (c_ne hr.units) (s_raised (k := 5) (raised t_law_e_raised) Ff hmf hkf hbf hme TB rfl (List.mem_of_getElem? (i := 0) rfl) (hu_at (Tb := [(P0, "_law_e_refusals.<locals>.<lambda>")]) nd (i := 0) rfl) (hr.mono (by decide)) (by decide) (LamX.lamS_by (sc := defScope s_law_e_refusals) (by decide +kernel)) rfl (fun _ _ _ _ _ => rfl) (fun A' outer' s' H' E' f' c' hr => by exact (s_call D_two_routes hr lam_tk (ar_cons (ar_cons ar_nil)) (sa_cons (s_v 7) (sa_cons (s_v 8) sa_nil)))) hsub fault_good rfl (by decide) (by decide) (by decide) rfl) (s_v 9)) (sb_one (ss_ret s_bl)) sb_nil))) (sb_one (ss_ret (s_cmp (c_eq hr.units) (s_raised (k := 5) (raised t_law_e_raised) Ff hmf hkf hbf hme TB rfl (List.mem_of_getElem? (i := 0) rfl) (hu_at (Tb := [(P0, "_law_e_refusals.<locals>.<lambda>")]) nd (i := 0) rfl) (hr.mono (by decide)) (by decide) (LamX.lamS_by (sc := defScope s_law_e_refusals) (by decide +kernel)) rfl (fun _ _ _ _ _ => rfl) (fun A' outer' s' H' E' f' c' hr => by exact (s_call D_route_lag hr lam_tk (ar_cons ar_nil) (sa_cons (s_lst sa_nil) sa_nil))) hsub fault_good rfl (by decide) (by decide) (by decide) rfl) (s_tup (sa_cons s_str (sa_cons s_str sa_nil))))))))))))⟩

abbrev s_law : Stmt := topS 32
theorem sc_law : FnScope ["script", "s", "looks", "beats", "a", "b", "c", "d", "k", "look"] ["script"] (defScope s_law) := ⟨rfl, rfl, rfl, by decide +kernel, rfl, by decide +kernel, by decide +kernel⟩

theorem d_law {P0 : Addr} (t : TxtD K mg "law" s_law ["script"]) (m_max : mg "max" = none) (m_min : mg "min" = none) (m_range : mg "range" = none) (D_law_source : Def P w K mg base T 1 "_law_source" ["script", "at"] F_law_source) (D_law_e_draw : Def P w K mg base T 3 "_law_e_draw" ["s"] F_law_e_draw) (D_law_e_answers : Def P w K mg base T 6 "_law_e_answers" ["a", "b"] F_law_e_answers) (D_law_within : Def P w K mg base T 2 "_law_within" ["s", "low", "high"] F_law_within) (D_law_pick : Def P w K mg base T 1 "_law_pick" ["s", "many"] F_law_pick) (D_route_lag : Def P w K mg base T 3 "route_lag" ["looks"] F_route_lag) (D_law_same_2 : Def P w K mg base T 3 "_law_same" ["answer", "due"] F_law_same_2) (D_law_e_refusals : Def P w K mg base T 8 "_law_e_refusals" ["s", "a", "b"] (F_law_e_refusals P0)) : Def P w K mg base T 9 "law" ["script"] (F_law P0) :=
  Def.of (N := ["script", "s", "looks", "beats", "a", "b", "c", "d", "k", "look"]) t sc_law fun f cdv A outer s H E hr => by
    have tk := takes_of (X := cxOf (L2.CX P w) P w K mg base ["script", "s", "looks", "beats", "a", "b", "c", "d", "k", "look"] "law" (defScope s_law) f cdv A outer s H E) (E := E) rfl rfl rfl rfl
    exact ⟨_, (sb_cons (ss_set 1 sc_law.nd (s_call D_law_source hr tk (ar_cons (ar_cons ar_nil)) (sa_cons (s_v 0) (sa_cons s_int sa_nil)))) (sb_cons (ss_get (s_call D_law_e_draw hr tk (ar_cons ar_nil) (sa_cons (s_v 1) sa_nil)) (sg_tup rfl (sgs_cons (sg_nm 4 sc_law.nd) (sgs_cons (sg_nm 5 sc_law.nd) sgs_nil)))) (sb_cons (ss_get (s_call D_law_e_draw hr tk (ar_cons ar_nil) (sa_cons (s_v 1) sa_nil)) (sg_tup rfl (sgs_cons (sg_nm 6 sc_law.nd) (sgs_cons (sg_nm 7 sc_law.nd) sgs_nil)))) (sb_cons (ss_if (st_not (st_tru (s_call D_law_e_answers hr tk (ar_cons (ar_cons ar_nil)) (sa_cons (s_v 4) (sa_cons (s_v 5) sa_nil))))) (sb_one (ss_ret s_bl)) sb_nil) (sb_cons (ss_if (st_not (st_tru (s_call D_law_e_answers hr tk (ar_cons (ar_cons ar_nil)) (sa_cons (s_v 6) (sa_cons (s_v 7) sa_nil))))) (sb_one (ss_ret s_bl)) sb_nil) (sb_cons (ss_comp (i := 2) (own := [("k", 8)]) rfl sc_law.nd (si_range1 m_range (sa_cons (s_call D_law_within hr tk (ar_cons (ar_cons (ar_cons ar_nil))) (sa_cons (s_v 1) (sa_cons s_int (sa_cons s_int sa_nil)))) sa_nil)) (blkOk_by (N := ["script", "s", "looks", "beats", "a", "b", "c", "d", "k", "look"]) (sc := defScope s_law) (by decide +kernel)) (fun _ _ _ _ _ => by exact (sg_nm 8 sc_law.nd)) (fun _ _ _ _ _ => by exact sq_nil) (fun _ _ _ _ _ => by exact (s_tup (sa_cons (s_call D_law_pick hr takes0 (ar_cons (ar_cons ar_nil)) (sa_cons (s_v 1) (sa_cons s_int sa_nil))) (sa_cons (s_call D_law_pick hr takes0 (ar_cons (ar_cons ar_nil)) (sa_cons (s_v 1) (sa_cons s_int sa_nil))) sa_nil))))) (sb_cons (ss_comp (i := 3) (own := [("look", 9)]) rfl sc_law.nd (si_any (s_v 2)) (blkOk_by (N := ["script", "s", "looks", "beats", "a", "b", "c", "d", "k", "look"]) (sc := defScope s_law) (by decide +kernel)) (fun _ _ _ _ _ => by exact (sg_nm 9 sc_law.nd)) (fun _ _ _ _ _ => by exact sq_nil) (fun _ _ _ _ _ => by exact (s_ix (s_v 9) s_int))) (sb_cons (ss_if (st_not (st_tru (s_call D_law_same_2 hr tk (ar_cons (ar_cons ar_nil)) (sa_cons (s_call D_route_lag hr tk (ar_cons ar_nil) (sa_cons (s_v 2) sa_nil)) (sa_cons (s_tup (sa_cons (s_maxL rfl (hu65 hr) m_max (sa_cons (s_v 3) sa_nil)) (sa_cons (s_add (s_sub (s_maxL rfl (hu65 hr) m_max (sa_cons (s_v 3) sa_nil)) (s_minL rfl (hu65 hr) m_min (sa_cons (s_v 3) sa_nil))) s_int) sa_nil))) sa_nil))))) (sb_one (ss_ret s_bl)) sb_nil) (sb_one (ss_ret (s_call D_law_e_refusals hr tk (ar_cons (ar_cons (ar_cons ar_nil))) (sa_cons (s_v 1) (sa_cons (s_v 4) (sa_cons (s_v 5) sa_nil))))))))))))))⟩
end
def mthS (i j : Nat) : Stmt := match topS i with
  | .ClassDef _ _ _ b _ _ _ _ _ _ _ => b.getD j (.Pass ⟨0, 0, 0, 0⟩)
  | _ => .Pass ⟨0, 0, 0, 0⟩
abbrev i_TooMany : Stmt := mthS 2 0
theorem is_TooMany : FnScope [("self" : Str), "what"] [("self" : Str), "what"] (defScope i_TooMany) := ⟨rfl, rfl, rfl, by decide +kernel, rfl, by decide +kernel, by decide +kernel⟩
abbrev i_BadRoutes : Stmt := mthS 3 0
theorem is_BadRoutes : FnScope [("self" : Str), "what"] [("self" : Str), "what"] (defScope i_BadRoutes) := ⟨rfl, rfl, rfl, by decide +kernel, rfl, by decide +kernel, by decide +kernel⟩
abbrev TBL (P0 : Addr) : List (Addr × Str) := [(P0, "_law_e_refusals.<locals>.<lambda>")]
theorem all_mk {l : PySem.W.OpenLaw} {w : World} {K : PySem.W.Frag} {h : Heap} {mg : Str → Option Value} {fa : Addr} {ts : List Addr} (X : K.In h) (G : h.Ns mainGlobals mg) (hfa : mg "law" = some (.ref fa)) (hts : ∀ P ∈ ts, h.get? P = some (PySem.W.tabObj #[]))
    {f0 : Addr} {od0 an0 : Option Addr} {sl0 : Array (Option Value)} {oc0 kV0 dc0 pm0 cd0 ct0 : Value}
    (a0 : PySem.W.nsIn K mainGlobals "check_bound" = some (some (.ref f0))) (l0 : K.lookup f0 = some ⟨oc0, od0, .func (PySem.W.fnOf "check_bound" "check_bound" (defArgs s_check_bound) (defBody s_check_bound) (defScope s_check_bound) .none kV0 dc0 pm0 an0 cd0 ct0), sl0⟩) (c0 : PySem.W.codeIn K cd0 "check_bound" = true) (k0 : PySem.W.keepIn K (.ref f0) = true)
    {f1 : Addr} {od1 an1 : Option Addr} {sl1 : Array (Option Value)} {oc1 kV1 dc1 pm1 cd1 ct1 : Value}
    (a1 : PySem.W.nsIn K mainGlobals "check_lates" = some (some (.ref f1))) (l1 : K.lookup f1 = some ⟨oc1, od1, .func (PySem.W.fnOf "check_lates" "check_lates" (defArgs s_check_lates) (defBody s_check_lates) (defScope s_check_lates) .none kV1 dc1 pm1 an1 cd1 ct1), sl1⟩) (c1 : PySem.W.codeIn K cd1 "check_lates" = true) (k1 : PySem.W.keepIn K (.ref f1) = true)
    {f2 : Addr} {od2 an2 : Option Addr} {sl2 : Array (Option Value)} {oc2 kV2 dc2 pm2 cd2 ct2 : Value}
    (a2 : PySem.W.nsIn K mainGlobals "late_shifts" = some (some (.ref f2))) (l2 : K.lookup f2 = some ⟨oc2, od2, .func (PySem.W.fnOf "late_shifts" "late_shifts" (defArgs s_late_shifts) (defBody s_late_shifts) (defScope s_late_shifts) .none kV2 dc2 pm2 an2 cd2 ct2), sl2⟩) (c2 : PySem.W.codeIn K cd2 "late_shifts" = true) (k2 : PySem.W.keepIn K (.ref f2) = true)
    {f3 : Addr} {od3 an3 : Option Addr} {sl3 : Array (Option Value)} {oc3 kV3 dc3 pm3 cd3 ct3 : Value}
    (a3 : PySem.W.nsIn K mainGlobals "zigzag_looks" = some (some (.ref f3))) (l3 : K.lookup f3 = some ⟨oc3, od3, .func (PySem.W.fnOf "zigzag_looks" "zigzag_looks" (defArgs s_zigzag_looks) (defBody s_zigzag_looks) (defScope s_zigzag_looks) .none kV3 dc3 pm3 an3 cd3 ct3), sl3⟩) (c3 : PySem.W.codeIn K cd3 "zigzag_looks" = true) (k3 : PySem.W.keepIn K (.ref f3) = true)
    {f4 : Addr} {od4 an4 : Option Addr} {sl4 : Array (Option Value)} {oc4 kV4 dc4 pm4 cd4 ct4 : Value}
    (a4 : PySem.W.nsIn K mainGlobals "two_routes" = some (some (.ref f4))) (l4 : K.lookup f4 = some ⟨oc4, od4, .func (PySem.W.fnOf "two_routes" "two_routes" (defArgs s_two_routes) (defBody s_two_routes) (defScope s_two_routes) .none kV4 dc4 pm4 an4 cd4 ct4), sl4⟩) (c4 : PySem.W.codeIn K cd4 "two_routes" = true) (k4 : PySem.W.keepIn K (.ref f4) = true)
    {f5 : Addr} {od5 an5 : Option Addr} {sl5 : Array (Option Value)} {oc5 kV5 dc5 pm5 cd5 ct5 : Value}
    (a5 : PySem.W.nsIn K mainGlobals "route_lag" = some (some (.ref f5))) (l5 : K.lookup f5 = some ⟨oc5, od5, .func (PySem.W.fnOf "route_lag" "route_lag" (defArgs s_route_lag) (defBody s_route_lag) (defScope s_route_lag) .none kV5 dc5 pm5 an5 cd5 ct5), sl5⟩) (c5 : PySem.W.codeIn K cd5 "route_lag" = true) (k5 : PySem.W.keepIn K (.ref f5) = true)
    {f6 : Addr} {od6 an6 : Option Addr} {sl6 : Array (Option Value)} {oc6 kV6 dc6 pm6 cd6 ct6 : Value}
    (a6 : PySem.W.nsIn K mainGlobals "_law_source" = some (some (.ref f6))) (l6 : K.lookup f6 = some ⟨oc6, od6, .func (PySem.W.fnOf "_law_source" "_law_source" (defArgs s_law_source) (defBody s_law_source) (defScope s_law_source) .none kV6 dc6 pm6 an6 cd6 ct6), sl6⟩) (c6 : PySem.W.codeIn K cd6 "_law_source" = true) (k6 : PySem.W.keepIn K (.ref f6) = true)
    {f7 : Addr} {od7 an7 : Option Addr} {sl7 : Array (Option Value)} {oc7 kV7 dc7 pm7 cd7 ct7 : Value}
    (a7 : PySem.W.nsIn K mainGlobals "_law_pick" = some (some (.ref f7))) (l7 : K.lookup f7 = some ⟨oc7, od7, .func (PySem.W.fnOf "_law_pick" "_law_pick" (defArgs s_law_pick) (defBody s_law_pick) (defScope s_law_pick) .none kV7 dc7 pm7 an7 cd7 ct7), sl7⟩) (c7 : PySem.W.codeIn K cd7 "_law_pick" = true) (k7 : PySem.W.keepIn K (.ref f7) = true)
    {f8 : Addr} {od8 an8 : Option Addr} {sl8 : Array (Option Value)} {oc8 kV8 dc8 pm8 cd8 ct8 : Value}
    (a8 : PySem.W.nsIn K mainGlobals "_law_within" = some (some (.ref f8))) (l8 : K.lookup f8 = some ⟨oc8, od8, .func (PySem.W.fnOf "_law_within" "_law_within" (defArgs s_law_within) (defBody s_law_within) (defScope s_law_within) .none kV8 dc8 pm8 an8 cd8 ct8), sl8⟩) (c8 : PySem.W.codeIn K cd8 "_law_within" = true) (k8 : PySem.W.keepIn K (.ref f8) = true)
    {f9 : Addr} {od9 an9 : Option Addr} {sl9 : Array (Option Value)} {oc9 kV9 dc9 pm9 cd9 ct9 : Value}
    (a9 : PySem.W.nsIn K mainGlobals "_law_one" = some (some (.ref f9))) (l9 : K.lookup f9 = some ⟨oc9, od9, .func (PySem.W.fnOf "_law_one" "_law_one" (defArgs s_law_one) (defBody s_law_one) (defScope s_law_one) .none kV9 dc9 pm9 an9 cd9 ct9), sl9⟩) (c9 : PySem.W.codeIn K cd9 "_law_one" = true) (k9 : PySem.W.keepIn K (.ref f9) = true)
    {f10 : Addr} {od10 an10 : Option Addr} {sl10 : Array (Option Value)} {oc10 kV10 dc10 pm10 cd10 ct10 : Value}
    (a10 : PySem.W.nsIn K mainGlobals "_law_same" = some (some (.ref f10))) (l10 : K.lookup f10 = some ⟨oc10, od10, .func (PySem.W.fnOf "_law_same" "_law_same" (defArgs s_law_same) (defBody s_law_same) (defScope s_law_same) .none kV10 dc10 pm10 an10 cd10 ct10), sl10⟩) (c10 : PySem.W.codeIn K cd10 "_law_same" = true) (k10 : PySem.W.keepIn K (.ref f10) = true)
    {f11 : Addr} {od11 an11 : Option Addr} {sl11 : Array (Option Value)} {oc11 kV11 dc11 pm11 cd11 ct11 : Value}
    (a11 : PySem.W.nsIn K mainGlobals "_law_e_gcd" = some (some (.ref f11))) (l11 : K.lookup f11 = some ⟨oc11, od11, .func (PySem.W.fnOf "_law_e_gcd" "_law_e_gcd" (defArgs s_law_e_gcd) (defBody s_law_e_gcd) (defScope s_law_e_gcd) .none kV11 dc11 pm11 an11 cd11 ct11), sl11⟩) (c11 : PySem.W.codeIn K cd11 "_law_e_gcd" = true) (k11 : PySem.W.keepIn K (.ref f11) = true)
    {f12 : Addr} {od12 an12 : Option Addr} {sl12 : Array (Option Value)} {oc12 kV12 dc12 pm12 cd12 ct12 : Value}
    (a12 : PySem.W.nsIn K mainGlobals "_law_e_shifts" = some (some (.ref f12))) (l12 : K.lookup f12 = some ⟨oc12, od12, .func (PySem.W.fnOf "_law_e_shifts" "_law_e_shifts" (defArgs s_law_e_shifts) (defBody s_law_e_shifts) (defScope s_law_e_shifts) .none kV12 dc12 pm12 an12 cd12 ct12), sl12⟩) (c12 : PySem.W.codeIn K cd12 "_law_e_shifts" = true) (k12 : PySem.W.keepIn K (.ref f12) = true)
    {f13 : Addr} {od13 an13 : Option Addr} {sl13 : Array (Option Value)} {oc13 kV13 dc13 pm13 cd13 ct13 : Value}
    (a13 : PySem.W.nsIn K mainGlobals "_law_e_grain" = some (some (.ref f13))) (l13 : K.lookup f13 = some ⟨oc13, od13, .func (PySem.W.fnOf "_law_e_grain" "_law_e_grain" (defArgs s_law_e_grain) (defBody s_law_e_grain) (defScope s_law_e_grain) .none kV13 dc13 pm13 an13 cd13 ct13), sl13⟩) (c13 : PySem.W.codeIn K cd13 "_law_e_grain" = true) (k13 : PySem.W.keepIn K (.ref f13) = true)
    {f14 : Addr} {od14 an14 : Option Addr} {sl14 : Array (Option Value)} {oc14 kV14 dc14 pm14 cd14 ct14 : Value}
    (a14 : PySem.W.nsIn K mainGlobals "_law_e_meets" = some (some (.ref f14))) (l14 : K.lookup f14 = some ⟨oc14, od14, .func (PySem.W.fnOf "_law_e_meets" "_law_e_meets" (defArgs s_law_e_meets) (defBody s_law_e_meets) (defScope s_law_e_meets) .none kV14 dc14 pm14 an14 cd14 ct14), sl14⟩) (c14 : PySem.W.codeIn K cd14 "_law_e_meets" = true) (k14 : PySem.W.keepIn K (.ref f14) = true)
    {f15 : Addr} {od15 an15 : Option Addr} {sl15 : Array (Option Value)} {oc15 kV15 dc15 pm15 cd15 ct15 : Value}
    (a15 : PySem.W.nsIn K mainGlobals "_law_e_reach" = some (some (.ref f15))) (l15 : K.lookup f15 = some ⟨oc15, od15, .func (PySem.W.fnOf "_law_e_reach" "_law_e_reach" (defArgs s_law_e_reach) (defBody s_law_e_reach) (defScope s_law_e_reach) .none kV15 dc15 pm15 an15 cd15 ct15), sl15⟩) (c15 : PySem.W.codeIn K cd15 "_law_e_reach" = true) (k15 : PySem.W.keepIn K (.ref f15) = true)
    {f16 : Addr} {od16 an16 : Option Addr} {sl16 : Array (Option Value)} {oc16 kV16 dc16 pm16 cd16 ct16 : Value}
    (a16 : PySem.W.nsIn K mainGlobals "_law_e_draw" = some (some (.ref f16))) (l16 : K.lookup f16 = some ⟨oc16, od16, .func (PySem.W.fnOf "_law_e_draw" "_law_e_draw" (defArgs s_law_e_draw) (defBody s_law_e_draw) (defScope s_law_e_draw) .none kV16 dc16 pm16 an16 cd16 ct16), sl16⟩) (c16 : PySem.W.codeIn K cd16 "_law_e_draw" = true) (k16 : PySem.W.keepIn K (.ref f16) = true)
    {f17 : Addr} {od17 an17 : Option Addr} {sl17 : Array (Option Value)} {oc17 kV17 dc17 pm17 cd17 ct17 : Value}
    (a17 : PySem.W.nsIn K mainGlobals "_law_e_due" = some (some (.ref f17))) (l17 : K.lookup f17 = some ⟨oc17, od17, .func (PySem.W.fnOf "_law_e_due" "_law_e_due" (defArgs s_law_e_due) (defBody s_law_e_due) (defScope s_law_e_due) .none kV17 dc17 pm17 an17 cd17 ct17), sl17⟩) (c17 : PySem.W.codeIn K cd17 "_law_e_due" = true) (k17 : PySem.W.keepIn K (.ref f17) = true)
    {f18 : Addr} {od18 an18 : Option Addr} {sl18 : Array (Option Value)} {oc18 kV18 dc18 pm18 cd18 ct18 : Value}
    (a18 : PySem.W.nsIn K mainGlobals "_law_e_lines" = some (some (.ref f18))) (l18 : K.lookup f18 = some ⟨oc18, od18, .func (PySem.W.fnOf "_law_e_lines" "_law_e_lines" (defArgs s_law_e_lines) (defBody s_law_e_lines) (defScope s_law_e_lines) .none kV18 dc18 pm18 an18 cd18 ct18), sl18⟩) (c18 : PySem.W.codeIn K cd18 "_law_e_lines" = true) (k18 : PySem.W.keepIn K (.ref f18) = true)
    {f19 : Addr} {od19 an19 : Option Addr} {sl19 : Array (Option Value)} {oc19 kV19 dc19 pm19 cd19 ct19 : Value}
    (a19 : PySem.W.nsIn K mainGlobals "_law_e_joins" = some (some (.ref f19))) (l19 : K.lookup f19 = some ⟨oc19, od19, .func (PySem.W.fnOf "_law_e_joins" "_law_e_joins" (defArgs s_law_e_joins) (defBody s_law_e_joins) (defScope s_law_e_joins) .none kV19 dc19 pm19 an19 cd19 ct19), sl19⟩) (c19 : PySem.W.codeIn K cd19 "_law_e_joins" = true) (k19 : PySem.W.keepIn K (.ref f19) = true)
    {f20 : Addr} {od20 an20 : Option Addr} {sl20 : Array (Option Value)} {oc20 kV20 dc20 pm20 cd20 ct20 : Value}
    (a20 : PySem.W.nsIn K mainGlobals "_law_e_answers" = some (some (.ref f20))) (l20 : K.lookup f20 = some ⟨oc20, od20, .func (PySem.W.fnOf "_law_e_answers" "_law_e_answers" (defArgs s_law_e_answers) (defBody s_law_e_answers) (defScope s_law_e_answers) .none kV20 dc20 pm20 an20 cd20 ct20), sl20⟩) (c20 : PySem.W.codeIn K cd20 "_law_e_answers" = true) (k20 : PySem.W.keepIn K (.ref f20) = true)
    {f21 cc21 : Addr} {od21 an21 : Option Addr} {sl21 : Array (Option Value)} {oc21 kV21 dc21 pm21 ct21 : Value}
    (a21 : PySem.W.nsIn K mainGlobals "_law_e_refusals" = some (some (.ref f21))) (l21 : K.lookup f21 = some ⟨oc21, od21, .func (PySem.W.fnOf "_law_e_refusals" "_law_e_refusals" (defArgs s_law_e_refusals) (defBody s_law_e_refusals) (defScope s_law_e_refusals) .none kV21 dc21 pm21 an21 (.ref cc21) ct21), sl21⟩) (c21 : PySem.W.codeIn K (.ref cc21) "_law_e_refusals" = true) (k21 : PySem.W.keepIn K (.ref f21) = true)
    {f22 : Addr} {od22 an22 : Option Addr} {sl22 : Array (Option Value)} {oc22 kV22 dc22 pm22 cd22 ct22 : Value}
    (a22 : PySem.W.nsIn K mainGlobals "law" = some (some (.ref f22))) (l22 : K.lookup f22 = some ⟨oc22, od22, .func (PySem.W.fnOf "law" "law" (defArgs s_law) (defBody s_law) (defScope s_law) .none kV22 dc22 pm22 an22 cd22 ct22), sl22⟩) (c22 : PySem.W.codeIn K cd22 "law" = true) (k22 : PySem.W.keepIn K (.ref f22) = true)
    {f23 : Addr} {od23 an23 : Option Addr} {sl23 : Array (Option Value)} {oc23 kV23 dc23 pm23 cd23 ct23 : Value}
    (a23 : PySem.W.nsIn K mainGlobals "_law_fault" = some (some (.ref f23))) (l23 : K.lookup f23 = some ⟨oc23, od23, .func (PySem.W.fnOf "_law_fault" "_law_fault" (defArgs s_law_fault) (defBody s_law_fault) (defScope s_law_fault) .none kV23 dc23 pm23 an23 cd23 ct23), sl23⟩) (c23 : PySem.W.codeIn K cd23 "_law_fault" = true) (k23 : PySem.W.keepIn K (.ref f23) = true)
    {f24 : Addr} {od24 an24 : Option Addr} {sl24 : Array (Option Value)} {oc24 kV24 dc24 pm24 cd24 ct24 : Value}
    (a24 : PySem.W.nsIn K mainGlobals "_law_e_raised" = some (some (.ref f24))) (l24 : K.lookup f24 = some ⟨oc24, od24, .func (PySem.W.fnOf "_law_e_raised" "_law_e_raised" (defArgs s_law_e_raised) (defBody s_law_e_raised) (defScope s_law_e_raised) .none kV24 dc24 pm24 an24 cd24 ct24), sl24⟩) (c24 : PySem.W.codeIn K cd24 "_law_e_raised" = true) (k24 : PySem.W.keepIn K (.ref f24) = true)
    (z_abs : PySem.W.nsIn K mainGlobals "abs" = some none)
    (z_all : PySem.W.nsIn K mainGlobals "all" = some none)
    (z_any : PySem.W.nsIn K mainGlobals "any" = some none)
    (z_bool : PySem.W.nsIn K mainGlobals "bool" = some none)
    (z_dict : PySem.W.nsIn K mainGlobals "dict" = some none)
    (z_divmod : PySem.W.nsIn K mainGlobals "divmod" = some none)
    (z_int : PySem.W.nsIn K mainGlobals "int" = some none)
    (z_isinstance : PySem.W.nsIn K mainGlobals "isinstance" = some none)
    (z_len : PySem.W.nsIn K mainGlobals "len" = some none)
    (z_list : PySem.W.nsIn K mainGlobals "list" = some none)
    (z_max : PySem.W.nsIn K mainGlobals "max" = some none)
    (z_min : PySem.W.nsIn K mainGlobals "min" = some none)
    (z_range : PySem.W.nsIn K mainGlobals "range" = some none)
    (z_sorted : PySem.W.nsIn K mainGlobals "sorted" = some none)
    (z_str : PySem.W.nsIn K mainGlobals "str" = some none)
    (z_tuple : PySem.W.nsIn K mainGlobals "tuple" = some none)
    (z_zip : PySem.W.nsIn K mainGlobals "zip" = some none)
    {d_LIMITS : Addr} {es_LIMITS : Array DictEntry} {n_LIMITS : Nat} (a_LIMITS : PySem.W.nsIn K mainGlobals "LIMITS" = some (some (.ref d_LIMITS))) (l_LIMITS : K.lookup d_LIMITS = some ⟨.type "dict", none, .dict es_LIMITS n_LIMITS, #[]⟩) (k_LIMITS : PySem.W.KeysLit w.params es_LIMITS.toList)
    {u_LIMITS0 : Value} (v_LIMITS0 : PySem.W.nsIn K d_LIMITS "feeds" = some (some u_LIMITS0)) (r_LIMITS0 : ∃ t, u_LIMITS0 = .int 4 t)
    {u_LIMITS1 : Value} (v_LIMITS1 : PySem.W.nsIn K d_LIMITS "letters" = some (some u_LIMITS1)) (r_LIMITS1 : ∃ t, u_LIMITS1 = .int 12 t)
    {u_LIMITS2 : Value} (v_LIMITS2 : PySem.W.nsIn K d_LIMITS "word" = some (some u_LIMITS2)) (r_LIMITS2 : ∃ t, u_LIMITS2 = .int 24 t)
    {u_LIMITS3 : Value} (v_LIMITS3 : PySem.W.nsIn K d_LIMITS "boxes" = some (some u_LIMITS3)) (r_LIMITS3 : ∃ t, u_LIMITS3 = .int 6 t)
    {u_LIMITS4 : Value} (v_LIMITS4 : PySem.W.nsIn K d_LIMITS "places" = some (some u_LIMITS4)) (r_LIMITS4 : ∃ t, u_LIMITS4 = .int 16 t)
    {u_LIMITS5 : Value} (v_LIMITS5 : PySem.W.nsIn K d_LIMITS "doctors" = some (some u_LIMITS5)) (r_LIMITS5 : ∃ t, u_LIMITS5 = .int 4 t)
    {u_LIMITS6 : Value} (v_LIMITS6 : PySem.W.nsIn K d_LIMITS "watched" = some (some u_LIMITS6)) (r_LIMITS6 : ∃ t, u_LIMITS6 = .int 8 t)
    {u_LIMITS7 : Value} (v_LIMITS7 : PySem.W.nsIn K d_LIMITS "faults" = some (some u_LIMITS7)) (r_LIMITS7 : ∃ t, u_LIMITS7 = .int 12 t)
    {u_LIMITS8 : Value} (v_LIMITS8 : PySem.W.nsIn K d_LIMITS "worlds" = some (some u_LIMITS8)) (r_LIMITS8 : ∃ t, u_LIMITS8 = .int 16 t)
    {u_LIMITS9 : Value} (v_LIMITS9 : PySem.W.nsIn K d_LIMITS "tests" = some (some u_LIMITS9)) (r_LIMITS9 : ∃ t, u_LIMITS9 = .int 6 t)
    {u_LIMITS10 : Value} (v_LIMITS10 : PySem.W.nsIn K d_LIMITS "blocks" = some (some u_LIMITS10)) (r_LIMITS10 : ∃ t, u_LIMITS10 = .int 16 t)
    {u_LIMITS11 : Value} (v_LIMITS11 : PySem.W.nsIn K d_LIMITS "box terms" = some (some u_LIMITS11)) (r_LIMITS11 : ∃ t, u_LIMITS11 = .int 400 t)
    {u_LIMITS12 : Value} (v_LIMITS12 : PySem.W.nsIn K d_LIMITS "needs" = some (some u_LIMITS12)) (r_LIMITS12 : ∃ t, u_LIMITS12 = .int 400 t)
    {u_LIMITS13 : Value} (v_LIMITS13 : PySem.W.nsIn K d_LIMITS "deep" = some (some u_LIMITS13)) (r_LIMITS13 : ∃ t, u_LIMITS13 = .int 4 t)
    {u_LIMITS14 : Value} (v_LIMITS14 : PySem.W.nsIn K d_LIMITS "window" = some (some u_LIMITS14)) (r_LIMITS14 : ∃ t, u_LIMITS14 = .int 12 t)
    {u_LIMITS15 : Value} (v_LIMITS15 : PySem.W.nsIn K d_LIMITS "lag" = some (some u_LIMITS15)) (r_LIMITS15 : ∃ t, u_LIMITS15 = .int 12 t)
    {u_LIMITS16 : Value} (v_LIMITS16 : PySem.W.nsIn K d_LIMITS "limit" = some (some u_LIMITS16)) (r_LIMITS16 : ∃ t, u_LIMITS16 = .int 12 t)
    {u_LIMITS17 : Value} (v_LIMITS17 : PySem.W.nsIn K d_LIMITS "sides" = some (some u_LIMITS17)) (r_LIMITS17 : ∃ t, u_LIMITS17 = .int 6 t)
    {u_LIMITS18 : Value} (v_LIMITS18 : PySem.W.nsIn K d_LIMITS "things" = some (some u_LIMITS18)) (r_LIMITS18 : ∃ t, u_LIMITS18 = .int 1200 t)
    {u_LIMITS19 : Value} (v_LIMITS19 : PySem.W.nsIn K d_LIMITS "kinds" = some (some u_LIMITS19)) (r_LIMITS19 : ∃ t, u_LIMITS19 = .int 200 t)
    {u_LIMITS20 : Value} (v_LIMITS20 : PySem.W.nsIn K d_LIMITS "beats" = some (some u_LIMITS20)) (r_LIMITS20 : ∃ t, u_LIMITS20 = .int 40 t)
    {u_LIMITS21 : Value} (v_LIMITS21 : PySem.W.nsIn K d_LIMITS "routes" = some (some u_LIMITS21)) (r_LIMITS21 : ∃ t, u_LIMITS21 = .int 8 t)
    {u_LIMITS22 : Value} (v_LIMITS22 : PySem.W.nsIn K d_LIMITS "lateness" = some (some u_LIMITS22)) (r_LIMITS22 : ∃ t, u_LIMITS22 = .int 60 t)
    {u_LIMITS23 : Value} (v_LIMITS23 : PySem.W.nsIn K d_LIMITS "deeds" = some (some u_LIMITS23)) (r_LIMITS23 : ∃ t, u_LIMITS23 = .int 60 t)
    {u_LIMITS24 : Value} (v_LIMITS24 : PySem.W.nsIn K d_LIMITS "bench things" = some (some u_LIMITS24)) (r_LIMITS24 : ∃ t, u_LIMITS24 = .int 400 t)
    {u_LIMITS25 : Value} (v_LIMITS25 : PySem.W.nsIn K d_LIMITS "branches" = some (some u_LIMITS25)) (r_LIMITS25 : ∃ t, u_LIMITS25 = .int 5000 t)
    {u_LIMITS26 : Value} (v_LIMITS26 : PySem.W.nsIn K d_LIMITS "sets" = some (some u_LIMITS26)) (r_LIMITS26 : ∃ t, u_LIMITS26 = .int 5000 t)
    {u_LIMITS27 : Value} (v_LIMITS27 : PySem.W.nsIn K d_LIMITS "priced worlds" = some (some u_LIMITS27)) (r_LIMITS27 : ∃ t, u_LIMITS27 = .int 8 t)
    {C_TooMany fI_TooMany N_TooMany : Addr} {nm_TooMany q_TooMany : Str} {bs_TooMany bm_TooMany sub_TooMany : List Value} {sn_TooMany : List Str} {ab_TooMany : Bool} {col_TooMany : Option Bool} {dd_TooMany : Option Addr} {k0_TooMany k1_TooMany k2_TooMany k3_TooMany k5_TooMany : Option Value} {oc_TooMany kV_TooMany dc_TooMany pm_TooMany cd_TooMany ct_TooMany : Value} {od_TooMany an_TooMany : Option Addr} {sl_TooMany : Array (Option Value)}
    (a_TooMany : PySem.W.nsIn K mainGlobals "TooMany" = some (some (.ref C_TooMany))) (l_TooMany : K.lookup C_TooMany = some (excClassObj nm_TooMany q_TooMany C_TooMany N_TooMany bs_TooMany bm_TooMany true sn_TooMany sub_TooMany ab_TooMany col_TooMany dd_TooMany k0_TooMany k1_TooMany k2_TooMany k3_TooMany k5_TooMany "ValueError.__new__")) (r_TooMany : PySem.HandSPX.refsVE bm_TooMany = true) (sa_TooMany : PySem.W.findIn K (.ref C_TooMany) "__setattr__" = some (some (.builtin "object.__setattr__"))) (ex_TooMany : PySem.W.subIn K (.ref C_TooMany) (.type "BaseException") = some true) (ty_TooMany : PySem.W.typeIn K (.ref C_TooMany) = some (.type "type")) (kC_TooMany : PySem.W.keepIn K (.ref C_TooMany) = true)
    (x_TooMany : excB K C_TooMany "what" = true) (i_TooMany' : PySem.W.findIn K (.ref C_TooMany) "__init__" = some (some (.ref fI_TooMany))) (tI_TooMany : PySem.W.typeIn K (.ref fI_TooMany) = some (.type "function")) (lI_TooMany : K.lookup fI_TooMany = some ⟨oc_TooMany, od_TooMany, .func (PySem.W.fnOf "__init__" "TooMany.__init__" (defArgs i_TooMany) (defBody i_TooMany) (defScope i_TooMany) .none kV_TooMany dc_TooMany pm_TooMany an_TooMany cd_TooMany ct_TooMany), sl_TooMany⟩) (cI_TooMany : PySem.W.codeIn K cd_TooMany "TooMany.__init__" = true) (kI_TooMany : PySem.W.keepIn K (.ref fI_TooMany) = true)
    {C_BadRoutes fI_BadRoutes N_BadRoutes : Addr} {nm_BadRoutes q_BadRoutes : Str} {bs_BadRoutes bm_BadRoutes sub_BadRoutes : List Value} {sn_BadRoutes : List Str} {ab_BadRoutes : Bool} {col_BadRoutes : Option Bool} {dd_BadRoutes : Option Addr} {k0_BadRoutes k1_BadRoutes k2_BadRoutes k3_BadRoutes k5_BadRoutes : Option Value} {oc_BadRoutes kV_BadRoutes dc_BadRoutes pm_BadRoutes cd_BadRoutes ct_BadRoutes : Value} {od_BadRoutes an_BadRoutes : Option Addr} {sl_BadRoutes : Array (Option Value)}
    (a_BadRoutes : PySem.W.nsIn K mainGlobals "BadRoutes" = some (some (.ref C_BadRoutes))) (l_BadRoutes : K.lookup C_BadRoutes = some (excClassObj nm_BadRoutes q_BadRoutes C_BadRoutes N_BadRoutes bs_BadRoutes bm_BadRoutes true sn_BadRoutes sub_BadRoutes ab_BadRoutes col_BadRoutes dd_BadRoutes k0_BadRoutes k1_BadRoutes k2_BadRoutes k3_BadRoutes k5_BadRoutes "ValueError.__new__")) (r_BadRoutes : PySem.HandSPX.refsVE bm_BadRoutes = true) (sa_BadRoutes : PySem.W.findIn K (.ref C_BadRoutes) "__setattr__" = some (some (.builtin "object.__setattr__"))) (ex_BadRoutes : PySem.W.subIn K (.ref C_BadRoutes) (.type "BaseException") = some true) (ty_BadRoutes : PySem.W.typeIn K (.ref C_BadRoutes) = some (.type "type")) (kC_BadRoutes : PySem.W.keepIn K (.ref C_BadRoutes) = true)
    (x_BadRoutes : excB K C_BadRoutes "what" = true) (i_BadRoutes' : PySem.W.findIn K (.ref C_BadRoutes) "__init__" = some (some (.ref fI_BadRoutes))) (tI_BadRoutes : PySem.W.typeIn K (.ref fI_BadRoutes) = some (.type "function")) (lI_BadRoutes : K.lookup fI_BadRoutes = some ⟨oc_BadRoutes, od_BadRoutes, .func (PySem.W.fnOf "__init__" "BadRoutes.__init__" (defArgs i_BadRoutes) (defBody i_BadRoutes) (defScope i_BadRoutes) .none kV_BadRoutes dc_BadRoutes pm_BadRoutes an_BadRoutes cd_BadRoutes ct_BadRoutes), sl_BadRoutes⟩) (cI_BadRoutes : PySem.W.codeIn K cd_BadRoutes "BadRoutes.__init__" = true) (kI_BadRoutes : PySem.W.keepIn K (.ref fI_BadRoutes) = true)
    {CS : Addr} (aCS : PySem.W.nsIn K mainGlobals "FitsError" = some (some (.ref CS)))
    (s_TooMany : PySem.W.exmOne K (.ref C_TooMany) (.ref CS) = some true)
    (g_TooMany_TooMany : PySem.W.kitOne K (.ref C_TooMany) (.ref C_TooMany) = some (SUB "TooMany" "TooMany"))
    (g_TooMany_BadRoutes : PySem.W.kitOne K (.ref C_TooMany) (.ref C_BadRoutes) = some (SUB "TooMany" "BadRoutes"))
    (s_BadRoutes : PySem.W.exmOne K (.ref C_BadRoutes) (.ref CS) = some true)
    (g_BadRoutes_TooMany : PySem.W.kitOne K (.ref C_BadRoutes) (.ref C_TooMany) = some (SUB "BadRoutes" "TooMany"))
    (g_BadRoutes_BadRoutes : PySem.W.kitOne K (.ref C_BadRoutes) (.ref C_BadRoutes) = some (SUB "BadRoutes" "BadRoutes"))
    {P0 : Addr} {oo0 : Option Addr} {vs0 : Array Value} {so0 : Array (Option Value)} (lc0 : K.lookup cc21 = some ⟨.type "code", oo0, .fields vs0, so0⟩) (pc0 : vs0[11]? = some (.ref P0)) (hc0 : PySem.W.codeHdIn K cc21 P0 = true) (nk0 : K.lookup P0 = none) (mt0 : P0 ∈ ts)
    (nd : ([P0] : List Addr).Nodup) (ok : ∀ ns : List Int, ns.length ≤ 63 → ∃ om, F_law P0 [.scr ns] ((TBL P0).map fun p => Cell.tab p.1 p.2) = .ok (.sh (.bl true)) om)
    : LamX.LawAtS l w K (L2.CX l.prog w) 9 63 "script" mg fa h := by
  have E_TooMany : ErrAt K w mg "TooMany" "what" C_TooMany "TooMany.__init__" i_TooMany := errAt_mk X G a_TooMany l_TooMany r_TooMany sa_TooMany ex_TooMany ty_TooMany kC_TooMany x_TooMany i_TooMany' tI_TooMany lI_TooMany cI_TooMany kI_TooMany fun _ _ _ _ _ _ us hl => match us, hl with | [_, _], _ => rfl
  have E_BadRoutes : ErrAt K w mg "BadRoutes" "what" C_BadRoutes "BadRoutes.__init__" i_BadRoutes := errAt_mk X G a_BadRoutes l_BadRoutes r_BadRoutes sa_BadRoutes ex_BadRoutes ty_BadRoutes kC_BadRoutes x_BadRoutes i_BadRoutes' tI_BadRoutes lI_BadRoutes cI_BadRoutes kI_BadRoutes fun _ _ _ _ _ _ us hl => match us, hl with | [_, _], _ => rfl
  let T : XT := (fun cn => ([("TooMany", C_TooMany), ("BadRoutes", C_BadRoutes)] : List (Str × Addr)).lookup cn)
  have K_TooMany : ∀ base : Heap, Kls l.prog w K mg base T 1 "TooMany" "what" C_TooMany := fun base => kls_of E_TooMany rfl is_TooMany rfl (.inl rfl)
  have K_BadRoutes : ∀ base : Heap, Kls l.prog w K mg base T 1 "BadRoutes" "what" C_BadRoutes := fun base => kls_of E_BadRoutes rfl is_BadRoutes rfl (.inl rfl)
  have hE : ∀ cn C, T cn = some C → ErrC K mg SUB CLS cn C := look_allA (p := fun cn C => ErrC K mg SUB CLS cn C) (List.forall_mem_cons.mpr ⟨⟨(excB_ok E_TooMany.x).1, (excB_ok E_TooMany.x).2.2.1, (excB_ok E_TooMany.x).2.1, (List.forall_mem_cons.mpr ⟨⟨_, E_TooMany.m, g_TooMany_TooMany, fun f hf => by cases hf⟩, (List.forall_mem_cons.mpr ⟨⟨_, E_BadRoutes.m, g_TooMany_BadRoutes, fun f hf => by cases hf; exact (excB_ok E_TooMany.x).2.2.2⟩, (List.forall_mem_nil _)⟩)⟩)⟩, (List.forall_mem_cons.mpr ⟨⟨(excB_ok E_BadRoutes.x).1, (excB_ok E_BadRoutes.x).2.2.1, (excB_ok E_BadRoutes.x).2.1, (List.forall_mem_cons.mpr ⟨⟨_, E_TooMany.m, g_BadRoutes_TooMany, fun f hf => by cases hf⟩, (List.forall_mem_cons.mpr ⟨⟨_, E_BadRoutes.m, g_BadRoutes_BadRoutes, fun f hf => by cases hf; exact (excB_ok E_BadRoutes.x).2.2.2⟩, (List.forall_mem_nil _)⟩)⟩)⟩, (List.forall_mem_nil _)⟩)⟩)
  have hsub : ∀ cn C, T cn = some C → PySem.W.exmOne K (.ref C) (.ref CS) = some true := look_allA (p := fun cn C => PySem.W.exmOne K (.ref C) (.ref CS) = some true) (List.forall_mem_cons.mpr ⟨s_TooMany, (List.forall_mem_cons.mpr ⟨s_BadRoutes, (List.forall_mem_nil _)⟩)⟩)
  have t_check_bound : TxtD K mg "check_bound" s_check_bound ["word", "number"] := TxtD.mk' X G a0 l0 c0 k0 fun _ _ _ _ _ _ us hl => match us, hl with | [_, _], _ => rfl
  have t_check_lates : TxtD K mg "check_lates" s_check_lates ["rows", "least"] := TxtD.mk' X G a1 l1 c1 k1 fun _ _ _ _ _ _ us hl => match us, hl with | [_, _], _ => rfl
  have t_late_shifts : TxtD K mg "late_shifts" s_late_shifts ["a", "b"] := TxtD.mk' X G a2 l2 c2 k2 fun _ _ _ _ _ _ us hl => match us, hl with | [_, _], _ => rfl
  have t_zigzag_looks : TxtD K mg "zigzag_looks" s_zigzag_looks ["a", "shifts", "i", "j"] := TxtD.mk' X G a3 l3 c3 k3 fun _ _ _ _ _ _ us hl => match us, hl with | [_, _, _, _], _ => rfl
  have t_two_routes : TxtD K mg "two_routes" s_two_routes ["a", "b"] := TxtD.mk' X G a4 l4 c4 k4 fun _ _ _ _ _ _ us hl => match us, hl with | [_, _], _ => rfl
  have t_route_lag : TxtD K mg "route_lag" s_route_lag ["looks"] := TxtD.mk' X G a5 l5 c5 k5 fun _ _ _ _ _ _ us hl => match us, hl with | [_], _ => rfl
  have t_law_source : TxtD K mg "_law_source" s_law_source ["script", "at"] := TxtD.mk' X G a6 l6 c6 k6 fun _ _ _ _ _ _ us hl => match us, hl with | [_, _], _ => rfl
  have t_law_pick : TxtD K mg "_law_pick" s_law_pick ["s", "many"] := TxtD.mk' X G a7 l7 c7 k7 fun _ _ _ _ _ _ us hl => match us, hl with | [_, _], _ => rfl
  have t_law_within : TxtD K mg "_law_within" s_law_within ["s", "low", "high"] := TxtD.mk' X G a8 l8 c8 k8 fun _ _ _ _ _ _ us hl => match us, hl with | [_, _, _], _ => rfl
  have t_law_one : TxtD K mg "_law_one" s_law_one ["s", "things"] := TxtD.mk' X G a9 l9 c9 k9 fun _ _ _ _ _ _ us hl => match us, hl with | [_, _], _ => rfl
  have t_law_same : TxtD K mg "_law_same" s_law_same ["answer", "due"] := TxtD.mk' X G a10 l10 c10 k10 fun _ _ _ _ _ _ us hl => match us, hl with | [_, _], _ => rfl
  have t_law_e_gcd : TxtD K mg "_law_e_gcd" s_law_e_gcd ["a", "b"] := TxtD.mk' X G a11 l11 c11 k11 fun _ _ _ _ _ _ us hl => match us, hl with | [_, _], _ => rfl
  have t_law_e_shifts : TxtD K mg "_law_e_shifts" s_law_e_shifts ["a", "b"] := TxtD.mk' X G a12 l12 c12 k12 fun _ _ _ _ _ _ us hl => match us, hl with | [_, _], _ => rfl
  have t_law_e_grain : TxtD K mg "_law_e_grain" s_law_e_grain ["a", "b"] := TxtD.mk' X G a13 l13 c13 k13 fun _ _ _ _ _ _ us hl => match us, hl with | [_, _], _ => rfl
  have t_law_e_meets : TxtD K mg "_law_e_meets" s_law_e_meets ["a", "b"] := TxtD.mk' X G a14 l14 c14 k14 fun _ _ _ _ _ _ us hl => match us, hl with | [_, _], _ => rfl
  have t_law_e_reach : TxtD K mg "_law_e_reach" s_law_e_reach ["lines", "start"] := TxtD.mk' X G a15 l15 c15 k15 fun _ _ _ _ _ _ us hl => match us, hl with | [_, _], _ => rfl
  have t_law_e_draw : TxtD K mg "_law_e_draw" s_law_e_draw ["s"] := TxtD.mk' X G a16 l16 c16 k16 fun _ _ _ _ _ _ us hl => match us, hl with | [_], _ => rfl
  have t_law_e_due : TxtD K mg "_law_e_due" s_law_e_due ["a", "b"] := TxtD.mk' X G a17 l17 c17 k17 fun _ _ _ _ _ _ us hl => match us, hl with | [_, _], _ => rfl
  have t_law_e_lines : TxtD K mg "_law_e_lines" s_law_e_lines ["a", "b", "far", "left"] := TxtD.mk' X G a18 l18 c18 k18 fun _ _ _ _ _ _ us hl => match us, hl with | [_, _, _, _], _ => rfl
  have t_law_e_joins : TxtD K mg "_law_e_joins" s_law_e_joins ["lines"] := TxtD.mk' X G a19 l19 c19 k19 fun _ _ _ _ _ _ us hl => match us, hl with | [_], _ => rfl
  have t_law_e_answers : TxtD K mg "_law_e_answers" s_law_e_answers ["a", "b"] := TxtD.mk' X G a20 l20 c20 k20 fun _ _ _ _ _ _ us hl => match us, hl with | [_, _], _ => rfl
  have t_law_e_refusals : TxtC K mg "_law_e_refusals" s_law_e_refusals ["s", "a", "b"] cc21 := TxtC.mk' X G a21 l21 c21 k21 fun _ _ _ _ _ us hl => match us, hl with | [_, _, _], _ => rfl
  have t_law : TxtD K mg "law" s_law ["script"] := TxtD.mk' X G a22 l22 c22 k22 fun _ _ _ _ _ _ us hl => match us, hl with | [_], _ => rfl
  have t_law_e_raised : TxtD K mg "_law_e_raised" s_law_e_raised ["call"] := TxtD.mk' X G a24 l24 c24 k24 fun _ _ _ _ _ _ us hl => match us, hl with | [_], _ => rfl
  have m_abs := PySem.W.mg_none_of X G z_abs
  have m_all := PySem.W.mg_none_of X G z_all
  have m_any := PySem.W.mg_none_of X G z_any
  have m_bool := PySem.W.mg_none_of X G z_bool
  have m_dict := PySem.W.mg_none_of X G z_dict
  have m_divmod := PySem.W.mg_none_of X G z_divmod
  have m_int := PySem.W.mg_none_of X G z_int
  have m_isinstance := PySem.W.mg_none_of X G z_isinstance
  have m_len := PySem.W.mg_none_of X G z_len
  have m_list := PySem.W.mg_none_of X G z_list
  have m_max := PySem.W.mg_none_of X G z_max
  have m_min := PySem.W.mg_none_of X G z_min
  have m_range := PySem.W.mg_none_of X G z_range
  have m_sorted := PySem.W.mg_none_of X G z_sorted
  have m_str := PySem.W.mg_none_of X G z_str
  have m_tuple := PySem.W.mg_none_of X G z_tuple
  have m_zip := PySem.W.mg_none_of X G z_zip
  have G_LIMITS : GTabD K w mg "LIMITS" d_LIMITS TAB_LIMITS := ⟨PySem.W.mg_of X G a_LIMITS, look_all (p := fun z i => KDct K w d_LIMITS z (.int i)) (List.forall_mem_cons.mpr ⟨kdct_mk' l_LIMITS k_LIMITS v_LIMITS0 r_LIMITS0, (List.forall_mem_cons.mpr ⟨kdct_mk' l_LIMITS k_LIMITS v_LIMITS1 r_LIMITS1, (List.forall_mem_cons.mpr ⟨kdct_mk' l_LIMITS k_LIMITS v_LIMITS2 r_LIMITS2, (List.forall_mem_cons.mpr ⟨kdct_mk' l_LIMITS k_LIMITS v_LIMITS3 r_LIMITS3, (List.forall_mem_cons.mpr ⟨kdct_mk' l_LIMITS k_LIMITS v_LIMITS4 r_LIMITS4, (List.forall_mem_cons.mpr ⟨kdct_mk' l_LIMITS k_LIMITS v_LIMITS5 r_LIMITS5, (List.forall_mem_cons.mpr ⟨kdct_mk' l_LIMITS k_LIMITS v_LIMITS6 r_LIMITS6, (List.forall_mem_cons.mpr ⟨kdct_mk' l_LIMITS k_LIMITS v_LIMITS7 r_LIMITS7, (List.forall_mem_cons.mpr ⟨kdct_mk' l_LIMITS k_LIMITS v_LIMITS8 r_LIMITS8, (List.forall_mem_cons.mpr ⟨kdct_mk' l_LIMITS k_LIMITS v_LIMITS9 r_LIMITS9, (List.forall_mem_cons.mpr ⟨kdct_mk' l_LIMITS k_LIMITS v_LIMITS10 r_LIMITS10, (List.forall_mem_cons.mpr ⟨kdct_mk' l_LIMITS k_LIMITS v_LIMITS11 r_LIMITS11, (List.forall_mem_cons.mpr ⟨kdct_mk' l_LIMITS k_LIMITS v_LIMITS12 r_LIMITS12, (List.forall_mem_cons.mpr ⟨kdct_mk' l_LIMITS k_LIMITS v_LIMITS13 r_LIMITS13, (List.forall_mem_cons.mpr ⟨kdct_mk' l_LIMITS k_LIMITS v_LIMITS14 r_LIMITS14, (List.forall_mem_cons.mpr ⟨kdct_mk' l_LIMITS k_LIMITS v_LIMITS15 r_LIMITS15, (List.forall_mem_cons.mpr ⟨kdct_mk' l_LIMITS k_LIMITS v_LIMITS16 r_LIMITS16, (List.forall_mem_cons.mpr ⟨kdct_mk' l_LIMITS k_LIMITS v_LIMITS17 r_LIMITS17, (List.forall_mem_cons.mpr ⟨kdct_mk' l_LIMITS k_LIMITS v_LIMITS18 r_LIMITS18, (List.forall_mem_cons.mpr ⟨kdct_mk' l_LIMITS k_LIMITS v_LIMITS19 r_LIMITS19, (List.forall_mem_cons.mpr ⟨kdct_mk' l_LIMITS k_LIMITS v_LIMITS20 r_LIMITS20, (List.forall_mem_cons.mpr ⟨kdct_mk' l_LIMITS k_LIMITS v_LIMITS21 r_LIMITS21, (List.forall_mem_cons.mpr ⟨kdct_mk' l_LIMITS k_LIMITS v_LIMITS22 r_LIMITS22, (List.forall_mem_cons.mpr ⟨kdct_mk' l_LIMITS k_LIMITS v_LIMITS23 r_LIMITS23, (List.forall_mem_cons.mpr ⟨kdct_mk' l_LIMITS k_LIMITS v_LIMITS24 r_LIMITS24, (List.forall_mem_cons.mpr ⟨kdct_mk' l_LIMITS k_LIMITS v_LIMITS25 r_LIMITS25, (List.forall_mem_cons.mpr ⟨kdct_mk' l_LIMITS k_LIMITS v_LIMITS26 r_LIMITS26, (List.forall_mem_cons.mpr ⟨kdct_mk' l_LIMITS k_LIMITS v_LIMITS27 r_LIMITS27, (List.forall_mem_nil _)⟩)⟩)⟩)⟩)⟩)⟩)⟩)⟩)⟩)⟩)⟩)⟩)⟩)⟩)⟩)⟩)⟩)⟩)⟩)⟩)⟩)⟩)⟩)⟩)⟩)⟩)⟩)⟩)⟩
  have hme := PySem.W.mg_of X G aCS
  have Fu_law_fault := fun_mk (st := s_law_fault) l23 c23 k23
  refine lawAt (T := T) (F := F_law P0) (st := s_law) (cs := [(cc21, P0)]) (Tb := TBL P0) rfl X hts (List.forall_mem_cons.mpr ⟨mt0, (List.forall_mem_nil _)⟩) (List.forall_mem_cons.mpr ⟨nk0, (List.forall_mem_nil _)⟩) (List.forall_mem_cons.mpr ⟨hc0, (List.forall_mem_nil _)⟩) nd hfa t_law (fun base _ _ hB => ?_) ok
  have Ff := fault_ok (P := l.prog) (w := w) (base := base) (T := T) Fu_law_fault m_isinstance hE
  have D_check_bound := d_check_bound (P := l.prog) (w := w) (base := base) (T := T) t_check_bound  G_LIMITS (K_TooMany base) 
  have D_check_lates := d_check_lates (P := l.prog) (w := w) (base := base) (T := T) t_check_lates m_any m_len  (K_BadRoutes base) D_check_bound
  have D_late_shifts := d_late_shifts (P := l.prog) (w := w) (base := base) (T := T) t_late_shifts m_zip   
  have D_zigzag_looks := d_zigzag_looks (P := l.prog) (w := w) (base := base) (T := T) t_zigzag_looks m_divmod m_range m_sorted   
  have D_two_routes := d_two_routes (P := l.prog) (w := w) (base := base) (T := T) t_two_routes m_len m_min m_range  (K_BadRoutes base) D_check_lates D_late_shifts D_zigzag_looks
  have D_route_lag := d_route_lag (P := l.prog) (w := w) (base := base) (T := T) t_route_lag m_max m_min  (K_BadRoutes base) 
  have D_law_source := d_law_source (P := l.prog) (w := w) (base := base) (T := T) t_law_source m_abs m_int m_len m_min m_range   
  have D_law_pick := d_law_pick (P := l.prog) (w := w) (base := base) (T := T) t_law_pick m_int   
  have D_law_within := d_law_within (P := l.prog) (w := w) (base := base) (T := T) t_law_within    D_law_pick
  have D_law_one := d_law_one (P := l.prog) (w := w) (base := base) (T := T) t_law_one m_len   D_law_pick
  have D_law_same_0 := d_law_same_0 (P := l.prog) (w := w) (base := base) (T := T) t_law_same m_bool m_int m_isinstance   
  have D_law_same_1 := d_law_same_1 (P := l.prog) (w := w) (base := base) (T := T) t_law_same m_all m_bool m_dict m_int m_isinstance m_len m_list m_str m_tuple m_zip   D_law_same_0
  have D_law_same_2 := d_law_same_2 (P := l.prog) (w := w) (base := base) (T := T) t_law_same m_all m_bool m_dict m_int m_isinstance m_len m_list m_str m_tuple m_zip   D_law_same_1
  have D_law_e_gcd := d_law_e_gcd (P := l.prog) (w := w) (base := base) (T := T) t_law_e_gcd m_abs m_int m_range   
  have D_law_e_shifts := d_law_e_shifts (P := l.prog) (w := w) (base := base) (T := T) t_law_e_shifts m_zip   
  have D_law_e_grain := d_law_e_grain (P := l.prog) (w := w) (base := base) (T := T) t_law_e_grain    D_law_e_shifts D_law_e_gcd
  have D_law_e_meets := d_law_e_meets (P := l.prog) (w := w) (base := base) (T := T) t_law_e_meets m_int   D_law_e_grain
  have D_law_e_reach := d_law_e_reach (P := l.prog) (w := w) (base := base) (T := T) t_law_e_reach m_len m_range   
  have D_law_e_draw := d_law_e_draw (P := l.prog) (w := w) (base := base) (T := T) t_law_e_draw m_list   D_law_pick D_law_one D_law_within
  have D_law_e_due := d_law_e_due (P := l.prog) (w := w) (base := base) (T := T) t_law_e_due m_abs m_min m_range m_sorted   
  have D_law_e_lines := d_law_e_lines (P := l.prog) (w := w) (base := base) (T := T) t_law_e_lines m_range   
  have D_law_e_joins := d_law_e_joins (P := l.prog) (w := w) (base := base) (T := T) t_law_e_joins    D_law_e_reach
  have D_law_e_answers := d_law_e_answers (P := l.prog) (w := w) (base := base) (T := T) t_law_e_answers m_list m_max m_min   D_law_e_due D_two_routes D_law_same_2 D_law_e_meets D_law_e_lines D_law_e_joins D_route_lag
  have D_law_e_refusals := d_law_e_refusals (P := l.prog) (w := w) (base := base) (T := T) t_law_e_refusals m_list   D_law_pick D_two_routes D_route_lag t_law_e_raised Ff (PySem.W.mg_of X G a23) k23 (.all fun us hl => match us, hl with | [_], _ => rfl) hme (hB _ (List.mem_of_getElem? (i := 0) rfl)) nd hsub
  have D_law := d_law (P := l.prog) (w := w) (base := base) (T := T) t_law m_max m_min m_range   D_law_source D_law_e_draw D_law_e_answers D_law_within D_law_pick D_route_lag D_law_same_2 D_law_e_refusals
  exact D_law
end Mini.K28

set_option linter.all false
set_option maxRecDepth 100000
/-! L_k28a: two routes: the path of looks that joins them; webs with one look left out. -/
namespace Mini.K28
open Mini Mini.LibR PySem
abbrev Pt := Int × Int
def pd (p : Pt) : D := .tup [.int p.1, .int p.2]
def plt (p q : Pt) : Bool := decide (p.1 < q.1) || (!decide (q.1 < p.1) && decide (p.2 < q.2))
theorem lt_pd (p q : Pt) : D.lt (pd p) (pd q) = plt p q := by
  unfold D.lt W.dataLt pd plt
  simp only [D.pyd, D.pyds, W.keyToks, W.keyToksAll, List.cons_append, List.nil_append]
  rw [PyProof.Rows.lex_self, PyProof.Rows.lex_cons, PyProof.Rows.lex_self, PyProof.Rows.lex_cons, PyProof.Rows.lex_self]
  show (decide (p.1 < q.1) || (!decide (q.1 < p.1) && (decide (p.2 < q.2) || (!decide (q.2 < p.2) && false)))) = _
  simp
def psort (ps : List Pt) : List Pt := ps.mergeSort fun x y => !plt y x
theorem dsort_pd (ps : List Pt) : dsort (ps.map pd) = (psort ps).map pd := by
  unfold dsort psort
  exact (List.map_mergeSort fun a _ b _ => by rw [lt_pd]).symm
theorem psort_perm {ps qs : List Pt} (h : ps.Perm qs) : psort ps = psort qs := by
  have tr : ∀ a b c : Pt, (!plt b a) = true → (!plt c b) = true → (!plt c a) = true := by
    rintro ⟨a1, a2⟩ ⟨b1, b2⟩ ⟨c1, c2⟩ h1 h2
    simp only [plt, Bool.not_eq_true', Bool.or_eq_false_iff, decide_eq_false_iff_not, Bool.and_eq_false_iff, Bool.not_eq_false', decide_eq_true_eq] at h1 h2 ⊢
    omega
  have to : ∀ a b : Pt, ((!plt b a) || (!plt a b)) = true := by
    rintro ⟨a1, a2⟩ ⟨b1, b2⟩
    simp only [plt, Bool.or_eq_true, Bool.not_eq_true', Bool.or_eq_false_iff, decide_eq_false_iff_not, Bool.and_eq_false_iff, Bool.not_eq_false', decide_eq_true_eq]
    omega
  refine List.Perm.eq_of_pairwise (le := fun a b => (!plt b a) = true) ?_ (List.pairwise_mergeSort tr to ps) (List.pairwise_mergeSort tr to qs) (((List.mergeSort_perm _ _).trans h).trans (List.mergeSort_perm _ _).symm)
  rintro ⟨a1, a2⟩ ⟨b1, b2⟩ _ _ h1 h2
  simp only [plt, Bool.not_eq_true', Bool.or_eq_false_iff, decide_eq_false_iff_not, Bool.and_eq_false_iff, Bool.not_eq_false', decide_eq_true_eq] at h1 h2
  rw [Prod.mk.injEq]
  omega
theorem mem_psort {ps : List Pt} {p : Pt} : p ∈ psort ps ↔ p ∈ ps := (List.mergeSort_perm _ _).mem_iff
theorem psort_len (ps : List Pt) : (psort ps).length = ps.length := (List.mergeSort_perm _ _).length_eq
/-! ### the path -/
def times (si sj : Int) : Option Nat := if si - sj = 0 then none else if (0 - si).fmod (si - sj) ≠ 0 ∨ (0 - si).fdiv (si - sj) < 1 then none else some ((0 - si).fdiv (si - sj)).toNat
theorem times_some {si sj : Int} {t : Nat} : times si sj = some t ↔ si - sj ≠ 0 ∧ 1 ≤ t ∧ (t : Int) * (si - sj) = -si := by
  unfold times
  by_cases h : si - sj = 0
  · simp [h]
  · rw [if_neg h]
    have q := Int.mul_fdiv_add_fmod (0 - si) (si - sj)
    by_cases c : (0 - si).fmod (si - sj) ≠ 0 ∨ (0 - si).fdiv (si - sj) < 1
    · rw [if_pos c]
      refine ⟨fun z => by simp at z, fun ⟨_, h1, h2⟩ => ?_⟩
      have e : (0 - si) = (si - sj) * (t : Int) := by rw [Int.mul_comm, h2]; omega
      rw [e, Int.mul_fdiv_cancel_left _ h] at c
      rcases c with c | c
      · exact absurd (Int.fmod_eq_zero_of_dvd (Int.dvd_mul_right _ _)) c
      · omega
    · rw [if_neg c]
      rw [not_or] at c
      have c0 : (0 - si).fmod (si - sj) = 0 := Classical.byContradiction fun z => c.1 z
      rw [c0] at q
      constructor
      · intro z
        cases z
        refine ⟨h, by omega, ?_⟩
        rw [Int.toNat_of_nonneg (by omega), Int.mul_comm]
        omega
      · rintro ⟨_, h1, h2⟩
        have e : (0 - si) = (si - sj) * (t : Int) := by rw [Int.mul_comm, h2]; omega
        rw [e, Int.mul_fdiv_cancel_left _ h]
        simp
def raw (i j ai aj st : Int) (t : Nat) : List Pt := ((List.range (t + 1)).map fun k : Nat => (i, ai + (0 + (k : Int)) * st)) ++ (List.range t).map fun k : Nat => (j, aj + (1 + (k : Int)) * st)
theorem mem_raw {i j ai aj st : Int} {t : Nat} {p : Pt} : p ∈ raw i j ai aj st t ↔ (∃ k : Nat, k ≤ t ∧ p = (i, ai + k * st)) ∨ ∃ k : Nat, 1 ≤ k ∧ k ≤ t ∧ p = (j, aj + k * st) := by
  unfold raw
  rw [List.mem_append, List.mem_map, List.mem_map]
  constructor
  · rintro (⟨k, hk, rfl⟩ | ⟨k, hk, rfl⟩) <;> rw [List.mem_range] at hk
    · exact .inl ⟨k, by omega, by rw [Int.zero_add]⟩
    · exact .inr ⟨k + 1, by omega, by omega, by rw [show ((k + 1 : Nat) : Int) = 1 + (k : Int) by omega]⟩
  · rintro (⟨k, hk, rfl⟩ | ⟨k, h1, hk, rfl⟩)
    · exact .inl ⟨k, List.mem_range.mpr (by omega), by rw [Int.zero_add]⟩
    · refine .inr ⟨k - 1, List.mem_range.mpr (by omega), ?_⟩
      rw [show (1 : Int) + ((k - 1 : Nat) : Int) = (k : Int) by omega]
def zig (i j ai aj si sj : Int) : Option (List Pt) := (times si sj).map fun t => psort (raw i j ai aj (si - sj) t)
/-- the least late of the even routes -/
def first (a0 a1 b0 b1 : Int) : Pt := if a0 = b0 then (if a1 = b1 ∧ a1 < a0 then (1, a1) else (0, a0)) else (1, a1)
def due (a0 a1 b0 b1 : Int) : Option (List Pt) := if a0 = b0 ∨ a1 = b1 then some [first a0 a1 b0 b1] else match zig 0 1 a0 a1 (a0 - b0) (a1 - b1) with
  | some l => some l
  | none => zig 1 0 a1 a0 (a1 - b1) (a0 - b0)
/-- the numbers of route i -/
def at2 (x0 x1 i : Int) : Int := if i = 0 then x0 else x1
/-- l is the path -/
def Way (a0 a1 b0 b1 : Int) (l : List Pt) : Prop := ∃ (i j : Int) (t : Nat), (i = 0 ∧ j = 1 ∨ i = 1 ∧ j = 0) ∧
  (t : Int) * ((at2 a0 a1 i - at2 b0 b1 i) - (at2 a0 a1 j - at2 b0 b1 j)) = -(at2 a0 a1 i - at2 b0 b1 i) ∧
  ((at2 a0 a1 i - at2 b0 b1 i) - (at2 a0 a1 j - at2 b0 b1 j) = 0 → a0 = b0 ∧ a1 = b1) ∧
  ∀ p, p ∈ l ↔ (∃ k : Nat, k ≤ t ∧ p = (i, at2 a0 a1 i + k * ((at2 a0 a1 i - at2 b0 b1 i) - (at2 a0 a1 j - at2 b0 b1 j)))) ∨
    ∃ k : Nat, 1 ≤ k ∧ k ≤ t ∧ p = (j, at2 a0 a1 j + k * ((at2 a0 a1 i - at2 b0 b1 i) - (at2 a0 a1 j - at2 b0 b1 j)))
theorem zig_way {a0 a1 b0 b1 : Int} {i j ai aj si sj : Int} {l : List Pt} (hij : i = 0 ∧ j = 1 ∨ i = 1 ∧ j = 0) (e1 : ai = at2 a0 a1 i) (e2 : aj = at2 a0 a1 j) (e3 : si = at2 a0 a1 i - at2 b0 b1 i) (e4 : sj = at2 a0 a1 j - at2 b0 b1 j)
    (h : zig i j ai aj si sj = some l) : Way a0 a1 b0 b1 l := by
  unfold zig at h
  obtain ⟨t, ht, rfl⟩ := Option.map_eq_some_iff.mp h
  obtain ⟨h0, h1, h2⟩ := times_some.mp ht
  subst e1 e2 e3 e4
  exact ⟨i, j, t, hij, h2, fun z => absurd z h0, fun p => by rw [mem_psort, mem_raw]⟩
theorem first_way {a0 a1 b0 b1 : Int} (h : a0 = b0 ∨ a1 = b1) : Way a0 a1 b0 b1 [first a0 a1 b0 b1] := by
  have key : ∀ i j : Int, (i = 0 ∧ j = 1 ∨ i = 1 ∧ j = 0) → at2 a0 a1 i = at2 b0 b1 i → first a0 a1 b0 b1 = (i, at2 a0 a1 i) → Way a0 a1 b0 b1 [first a0 a1 b0 b1] := by
    intro i j hij hs hf
    refine ⟨i, j, 0, hij, by rw [hs]; simp, fun z => ?_, fun p => ?_⟩
    · rcases hij with ⟨rfl, rfl⟩ | ⟨rfl, rfl⟩ <;> simp [at2] at z hs <;> omega
    · rw [List.mem_singleton, hf]
      constructor
      · rintro rfl; exact .inl ⟨0, Nat.le_refl _, by simp⟩
      · rintro (⟨k, hk, rfl⟩ | ⟨k, h1, hk, rfl⟩)
        · obtain rfl : k = 0 := by omega
          simp
        · omega
  by_cases c : a0 = b0
  · by_cases d : a1 = b1 ∧ a1 < a0
    · exact key 1 0 (.inr ⟨rfl, rfl⟩) d.1 (by simp [first, c, d, at2]; omega)
    · exact key 0 1 (.inl ⟨rfl, rfl⟩) c (by unfold first; rw [if_pos c, if_neg d]; rfl)
  · exact key 1 0 (.inr ⟨rfl, rfl⟩) (h.resolve_left c) (by simp [first, c, at2])
theorem due_way {a0 a1 b0 b1 : Int} {l : List Pt} (h : due a0 a1 b0 b1 = some l) : Way a0 a1 b0 b1 l := by
  unfold due at h
  split at h
  · rename_i c
    cases h
    exact first_way c
  · split at h
    · rename_i l' e
      cases h
      exact zig_way (.inl ⟨rfl, rfl⟩) rfl rfl rfl rfl e
    · exact zig_way (.inr ⟨rfl, rfl⟩) rfl rfl rfl rfl h
theorem meets2 {x y : Int} : Meets [x, y] ↔ (x - y) ∣ x := by
  constructor
  · intro h
    have := h (x - y).natAbs (fun u hu v hv => by
      simp only [List.mem_cons, List.mem_nil_iff, or_false] at hu hv
      rw [Int.natAbs_dvd]
      rcases hu with rfl | rfl <;> rcases hv with rfl | rfl
      · rw [Int.sub_self]; exact Int.dvd_zero _
      · exact Int.dvd_refl _
      · rw [show u - v = -(v - u) by omega]; exact Int.dvd_neg.mpr (Int.dvd_refl _)
      · rw [Int.sub_self]; exact Int.dvd_zero _) x (by simp)
    rwa [Int.natAbs_dvd] at this
  · intro h d hd u hu
    have h1 : (d : Int) ∣ x := Int.dvd_trans (hd x (by simp) y (by simp)) h
    simp only [List.mem_cons, List.mem_nil_iff, or_false] at hu
    rcases hu with rfl | rfl
    · exact h1
    · have := Int.dvd_sub h1 (hd x (by simp) u (by simp))
      rwa [show x - (x - u) = u by omega] at this
theorem due_iff {a0 a1 b0 b1 : Int} : (∃ l, due a0 a1 b0 b1 = some l) ↔ Meets [a0 - b0, a1 - b1] := by
  rw [meets2]
  constructor
  · rintro ⟨l, h⟩
    obtain ⟨i, j, t, hij, e, _, _⟩ := due_way h
    rcases hij with ⟨rfl, rfl⟩ | ⟨rfl, rfl⟩ <;> simp only [at2, if_true, show ¬ (1 : Int) = 0 by decide, if_false] at e
    · exact Int.dvd_neg.mp (by rw [← e]; exact Int.dvd_mul_left _ _)
    · have d1 : (a0 - b0 - (a1 - b1)) ∣ (a1 - b1) := by
        refine Int.dvd_neg.mp ?_
        rw [← e]
        exact Int.dvd_trans (Int.dvd_neg.mpr (Int.dvd_refl _)) (by rw [show -(a0 - b0 - (a1 - b1)) = a1 - b1 - (a0 - b0) by omega]; exact Int.dvd_mul_left _ _)
      have := Int.dvd_add d1 (Int.dvd_refl (a0 - b0 - (a1 - b1)))
      rwa [show a1 - b1 + (a0 - b0 - (a1 - b1)) = a0 - b0 by omega] at this
  · rintro ⟨q, hq⟩
    unfold due
    by_cases c : a0 = b0 ∨ a1 = b1
    · exact ⟨_, if_pos c⟩
    · rw [if_neg c]
      rw [not_or] at c
      have hst : a0 - b0 - (a1 - b1) ≠ 0 := fun z => by rw [z] at hq; omega
      by_cases hn : q < 0
      · have ht : times (a0 - b0) (a1 - b1) = some (-q).toNat := times_some.mpr ⟨hst, by omega, by
          rw [Int.toNat_of_nonneg (by omega), Int.neg_mul, Int.mul_comm, ← hq]⟩
        simp only [zig, ht, Option.map_some]
        exact ⟨_, rfl⟩
      · have q0 : q ≠ 0 := fun z => by rw [z] at hq; omega
        have q1 : q ≠ 1 := fun z => by rw [z] at hq; omega
        have ht : times (a1 - b1) (a0 - b0) = some (q - 1).toNat := times_some.mpr ⟨by omega, by omega, by
          rw [Int.toNat_of_nonneg (by omega), show a1 - b1 - (a0 - b0) = -(a0 - b0 - (a1 - b1)) by omega, Int.mul_neg, Int.mul_comm, Int.mul_sub, ← hq]
          omega⟩
        cases z : zig 0 1 a0 a1 (a0 - b0) (a1 - b1) with
        | some l => exact ⟨_, rfl⟩
        | none => simp only [zig, ht, Option.map_some]; exact ⟨_, rfl⟩
/-- no look is ahead of beat 0 -/
theorem way_nonneg {a0 a1 b0 b1 : Int} {l : List Pt} (h : Way a0 a1 b0 b1 l) (ha0 : 0 ≤ a0) (ha1 : 0 ≤ a1) (hb0 : 0 ≤ b0) (hb1 : 0 ≤ b1) : ∀ p ∈ l, 0 ≤ p.2 := by
  obtain ⟨i, j, t, hij, e, _, hm⟩ := h
  have hai : 0 ≤ at2 a0 a1 i := by unfold at2; split <;> assumption
  have haj : 0 ≤ at2 a0 a1 j := by unfold at2; split <;> assumption
  have hbi : 0 ≤ at2 b0 b1 i := by unfold at2; split <;> assumption
  have hbj : 0 ≤ at2 b0 b1 j := by unfold at2; split <;> assumption
  revert e hm
  generalize at2 a0 a1 i = ai at *
  generalize at2 a0 a1 j = aj at *
  generalize at2 b0 b1 i = bi at *
  generalize at2 b0 b1 j = bj at *
  intro e hm p hp
  have mono : ∀ k : Nat, k ≤ t → ((0 ≤ (ai - bi - (aj - bj)) → 0 ≤ (k : Int) * (ai - bi - (aj - bj))) ∧ ((ai - bi - (aj - bj)) ≤ 0 → (t : Int) * (ai - bi - (aj - bj)) ≤ (k : Int) * (ai - bi - (aj - bj)))) := by
    intro k hk
    refine ⟨fun h => Int.mul_nonneg (by omega) h, fun h => ?_⟩
    exact Int.mul_le_mul_of_nonpos_right (by omega) h
  rcases (hm p).mp hp with ⟨k, hk, rfl⟩ | ⟨k, h1, hk, rfl⟩
  · have := mono k hk
    show 0 ≤ ai + k * (ai - bi - (aj - bj))
    rcases Int.le_total 0 (ai - bi - (aj - bj)) with z | z
    · have := this.1 z; omega
    · have := this.2 z; omega
  · have := mono k hk
    show 0 ≤ aj + k * (ai - bi - (aj - bj))
    rcases Int.le_total 0 (ai - bi - (aj - bj)) with z | z
    · have := this.1 z; omega
    · have := this.2 z; omega
/-! ### webs -/
def ln (a0 a1 b0 b1 : Int) (far : Nat) (left : Option Pt) : List (Pt × Pt) := ([0, 1] : List Int).flatMap fun i => ((List.range (2 * far + 1)).filter fun k : Nat => decide (some (i, -(far : Int) + (k : Int)) ≠ left)).map fun k : Nat => ((0, -(far : Int) + (k : Int) - at2 a0 a1 i), (1, -(far : Int) + (k : Int) - at2 b0 b1 i))
theorem mem_ln {a0 a1 b0 b1 : Int} {far : Nat} {left : Option Pt} {p q : Pt} : (p, q) ∈ ln a0 a1 b0 b1 far left ↔ ∃ i x : Int, (i = 0 ∨ i = 1) ∧ -(far : Int) ≤ x ∧ x ≤ far ∧ some (i, x) ≠ left ∧ p = (0, x - at2 a0 a1 i) ∧ q = (1, x - at2 b0 b1 i) := by
  unfold ln
  simp only [List.mem_flatMap, List.mem_map, List.mem_filter, List.mem_range, decide_eq_true_eq, Prod.mk.injEq, List.mem_cons, List.mem_nil_iff, or_false]
  constructor
  · rintro ⟨i, hi, k, ⟨hk, hl⟩, e1, e2⟩
    exact ⟨i, _, hi, by omega, by omega, hl, e1.symm, e2.symm⟩
  · rintro ⟨i, x, hi, h1, h2, hl, rfl, rfl⟩
    have e : -(far : Int) + (((x + far).toNat : Nat) : Int) = x := by omega
    exact ⟨i, hi, (x + far).toNat, ⟨by omega, by rw [e]; exact hl⟩, by rw [e], by rw [e]⟩
theorem ln_len (a0 a1 b0 b1 : Int) (far : Nat) (left : Option Pt) : (ln a0 a1 b0 b1 far left).length ≤ 2 * (2 * far + 1) := by
  unfold ln
  simp only [List.flatMap_cons, List.flatMap_nil, List.append_nil, List.length_append, List.length_map]
  have h0 := List.length_filter_le (fun k : Nat => decide (some ((0 : Int), -(far : Int) + (k : Int)) ≠ left)) (List.range (2 * far + 1))
  have h1 := List.length_filter_le (fun k : Nat => decide (some ((1 : Int), -(far : Int) + (k : Int)) ≠ left)) (List.range (2 * far + 1))
  rw [List.length_range] at h0 h1
  omega
theorem rch_sound {a0 a1 b0 b1 : Int} {far : Nat} {left : Option Pt} (h : Rch (ln a0 a1 b0 b1 far left) (0, 0) (1, 0)) : Meets [a0 - b0, a1 - b1] := by
  rw [meets2]
  have d0 : ∀ i : Int, (i = 0 ∨ i = 1) → (a0 - b0 - (a1 - b1)) ∣ (at2 a0 a1 i - at2 b0 b1 i) - (a0 - b0) := by
    rintro i (rfl | rfl)
    · simp [at2]
    · simp only [at2, show ¬ (1 : Int) = 0 by decide, if_false]
      rw [show a1 - b1 - (a0 - b0) = -(a0 - b0 - (a1 - b1)) by omega]
      exact Int.dvd_neg.mpr (Int.dvd_refl _)
  generalize (a0 - b0 - (a1 - b1)) = d at *
  have key : ∀ p : Pt, Rch (ln a0 a1 b0 b1 far left) (0, 0) p → (p.1 = 0 ∧ d ∣ p.2) ∨ (p.1 = 1 ∧ d ∣ p.2 - (a0 - b0)) := by
    intro p hp
    induction hp with
    | refl => exact .inl ⟨rfl, Int.dvd_zero _⟩
    | @step a b _ hb ih =>
      rcases mem_nbrs.mp hb with hb | hb <;> obtain ⟨i, x, hi, _, _, _, e1, e2⟩ := mem_ln.mp hb
      · rcases ih with ⟨_, ih⟩ | ⟨ih, _⟩
        · refine .inr ⟨by rw [e2], ?_⟩
          rw [e1] at ih
          rw [e2]
          have := Int.dvd_add ih (d0 i hi)
          rwa [show x - at2 a0 a1 i + (at2 a0 a1 i - at2 b0 b1 i - (a0 - b0)) = x - at2 b0 b1 i - (a0 - b0) by omega] at this
        · rw [e1] at ih; cases ih
      · rcases ih with ⟨ih, _⟩ | ⟨_, ih⟩
        · rw [e2] at ih; cases ih
        · refine .inl ⟨by rw [e1], ?_⟩
          rw [e2] at ih
          rw [e1]
          have := Int.dvd_sub ih (d0 i hi)
          rwa [show x - at2 b0 b1 i - (a0 - b0) - (at2 a0 a1 i - at2 b0 b1 i - (a0 - b0)) = x - at2 a0 a1 i by omega] at this
  rcases key _ h with ⟨e, _⟩ | ⟨_, e⟩
  · cases e
  · have : d ∣ -(a0 - b0) := by simpa using e
    exact Int.dvd_neg.mp this
theorem rch_way {a0 a1 b0 b1 : Int} {l : List Pt} (h : Way a0 a1 b0 b1 l) {far : Nat} (hf : 20 ≤ far) (ha0 : 0 ≤ a0 ∧ a0 ≤ 8) (ha1 : 0 ≤ a1 ∧ a1 ≤ 8) (hb0 : 0 ≤ b0 ∧ b0 ≤ 8) (hb1 : 0 ≤ b1 ∧ b1 ≤ 8) : Rch (ln a0 a1 b0 b1 far none) (0, 0) (1, 0) := by
  obtain ⟨i, j, t, hij, e, _, _⟩ := h
  have hi : i = 0 ∨ i = 1 := by omega
  have hj : j = 0 ∨ j = 1 := by omega
  have lin : ∀ k x : Int, (k = 0 ∨ k = 1) → -20 ≤ x → x ≤ 20 → ((0, x - at2 a0 a1 k), (1, x - at2 b0 b1 k)) ∈ ln a0 a1 b0 b1 far none := fun k x hk h1 h2 => mem_ln.mpr ⟨k, x, hk, by omega, by omega, by simp, rfl, rfl⟩
  have hai : 0 ≤ at2 a0 a1 i ∧ at2 a0 a1 i ≤ 8 := by unfold at2; split <;> assumption
  have haj : 0 ≤ at2 a0 a1 j ∧ at2 a0 a1 j ≤ 8 := by unfold at2; split <;> assumption
  have hbi : 0 ≤ at2 b0 b1 i ∧ at2 b0 b1 i ≤ 8 := by unfold at2; split <;> assumption
  have hbj : 0 ≤ at2 b0 b1 j ∧ at2 b0 b1 j ≤ 8 := by unfold at2; split <;> assumption
  have li := fun x => lin i x hi
  have lj := fun x => lin j x hj
  clear lin ha0 ha1 hb0 hb1 hij hi hj
  revert e li lj
  generalize at2 a0 a1 i = ai at *
  generalize at2 a0 a1 j = aj at *
  generalize at2 b0 b1 i = bi at *
  generalize at2 b0 b1 j = bj at *
  intro e li lj
  have bound : ∀ k : Nat, k ≤ t → -8 ≤ (k : Int) * (ai - bi - (aj - bj)) ∧ (k : Int) * (ai - bi - (aj - bj)) ≤ 8 := by
    intro k hk
    rcases Int.le_total 0 (ai - bi - (aj - bj)) with z | z
    · have h1 : 0 ≤ (k : Int) * (ai - bi - (aj - bj)) := Int.mul_nonneg (by omega) z
      have h2 : (k : Int) * (ai - bi - (aj - bj)) ≤ (t : Int) * (ai - bi - (aj - bj)) := Int.mul_le_mul_of_nonneg_right (by omega) z
      omega
    · have h1 : (k : Int) * (ai - bi - (aj - bj)) ≤ 0 := Int.mul_nonpos_of_nonneg_of_nonpos (by omega) z
      have h2 : (t : Int) * (ai - bi - (aj - bj)) ≤ (k : Int) * (ai - bi - (aj - bj)) := Int.mul_le_mul_of_nonpos_right (by omega) z
      omega
  have key : ∀ k : Nat, k ≤ t → Rch (ln a0 a1 b0 b1 far none) (0, 0) (0, (k : Int) * (ai - bi - (aj - bj))) := by
    intro k
    induction k with
    | zero => intro _; simpa using Rch.refl
    | succ k ih =>
      intro hk
      have r0 := ih (by omega)
      have b0 := bound k (by omega)
      have b1 := bound (k + 1) hk
      rw [Int.natCast_add, Int.add_mul] at b1 ⊢
      generalize (k : Int) * (ai - bi - (aj - bj)) = c at *
      simp only [Int.natCast_one, Int.one_mul] at b1 ⊢
      have e1 := li (c + ai) (by omega) (by omega)
      have e2 := lj (c + (ai - bi) + bj) (by omega) (by omega)
      rw [show c + ai - ai = c by omega] at e1
      rw [show c + (ai - bi) + bj - bj = c + ai - bi by omega, show c + (ai - bi) + bj - aj = c + (ai - bi - (aj - bj)) by omega] at e2
      exact .step (.step r0 (mem_nbrs.mpr (.inl e1))) (mem_nbrs.mpr (.inr e2))
  have r0 := key t (Nat.le_refl _)
  have bt := bound t (Nat.le_refl _)
  have e1 := li ((t : Int) * (ai - bi - (aj - bj)) + ai) (by omega) (by omega)
  rw [show (t : Int) * (ai - bi - (aj - bj)) + ai - ai = (t : Int) * (ai - bi - (aj - bj)) by omega, show (t : Int) * (ai - bi - (aj - bj)) + ai - bi = 0 by omega] at e1
  exact .step r0 (mem_nbrs.mpr (.inl e1))
/-- with one look of the path left out nothing joins -/
theorem rch_cut {a0 a1 b0 b1 : Int} {l : List Pt} (h : Way a0 a1 b0 b1 l) (hne : ¬ (a0 = b0 ∧ a1 = b1)) {look : Pt} (hl : look ∈ l) (far : Nat) : ¬ Rch (ln a0 a1 b0 b1 far (some look)) (0, 0) (1, 0) := by
  obtain ⟨i, j, t, hij, e, h0, hm⟩ := h
  have hst := fun z => hne (h0 z)
  have hl := (hm look).mp hl
  clear hm
  have cov : ∀ k : Int, (k = 0 ∨ k = 1) → k = i ∨ k = j := by
    intro k hk
    rcases hij with ⟨rfl, rfl⟩ | ⟨rfl, rfl⟩
    · exact hk
    · exact hk.symm
  have dist : i ≠ j := by omega
  revert e hl hst
  have ds : ∀ (p q : Pt), (p, q) ∈ ln a0 a1 b0 b1 far (some look) → ∃ x : Int, (some (i, x) ≠ some look ∧ p = (0, x - at2 a0 a1 i) ∧ q = (1, x - at2 b0 b1 i)) ∨ (some (j, x) ≠ some look ∧ p = (0, x - at2 a0 a1 j) ∧ q = (1, x - at2 b0 b1 j)) := by
    intro p q hpq
    obtain ⟨k, x, hk, _, _, hn, e1, e2⟩ := mem_ln.mp hpq
    rcases cov k hk with rfl | rfl
    · exact ⟨x, .inl ⟨hn, e1, e2⟩⟩
    · exact ⟨x, .inr ⟨hn, e1, e2⟩⟩
  revert ds
  generalize ln a0 a1 b0 b1 far (some look) = L
  generalize at2 a0 a1 i = ai
  generalize at2 a0 a1 j = aj
  generalize at2 b0 b1 i = bi
  generalize at2 b0 b1 j = bj
  intro ds e hst hl hr
  obtain ⟨st, hs⟩ : ∃ st, st = ai - bi - (aj - bj) := ⟨_, rfl⟩
  rw [← hs] at e hst hl
  -- the number of the look along the path
  obtain ⟨m, hm0, hmt, hlk⟩ : ∃ m : Int, 0 ≤ m ∧ m ≤ 2 * (t : Int) ∧ ∀ c : Int, (2 * c = m → look = (i, ai + c * st)) ∧ (2 * c - 1 = m → look = (j, aj + c * st)) := by
    rcases hl with ⟨k, hk, rfl⟩ | ⟨k, h1, hk, rfl⟩
    · exact ⟨2 * k, by omega, by omega, fun c => ⟨fun h => by rw [show c = (k : Int) by omega], fun h => by omega⟩⟩
    · exact ⟨2 * k - 1, by omega, by omega, fun c => ⟨fun h => by omega, fun h => by rw [show c = (k : Int) by omega]⟩⟩
  have key : ∀ p : Pt, Rch L (0, 0) p → ∃ c : Int, (p = (0, c * st) ∧ 2 * c ≤ m) ∨ (p = (1, c * st + (ai - bi)) ∧ 2 * c + 1 ≤ m) := by
    intro p hp
    induction hp with
    | refl => exact ⟨0, .inl ⟨by simp, by omega⟩⟩
    | @step a b _ hb ih =>
      obtain ⟨c, ih⟩ := ih
      rcases mem_nbrs.mp hb with hb | hb <;> obtain ⟨x, ⟨hn, e1, e2⟩ | ⟨hn, e1, e2⟩⟩ := ds _ _ hb <;> subst e1 <;> subst e2
      · rcases ih with ⟨q, hc⟩ | ⟨q, hc⟩
        · rw [Prod.mk.injEq] at q
          refine ⟨c, .inr ⟨by rw [Prod.mk.injEq]; exact ⟨rfl, by omega⟩, ?_⟩⟩
          have : 2 * c ≠ m := fun z => hn (by rw [(hlk c).1 z, show x = ai + c * st by omega])
          omega
        · cases q
      · rcases ih with ⟨q, hc⟩ | ⟨q, hc⟩
        · rw [Prod.mk.injEq] at q
          refine ⟨c - 1, .inr ⟨by rw [Prod.mk.injEq, Int.sub_mul]; exact ⟨rfl, by omega⟩, by omega⟩⟩
        · cases q
      · rcases ih with ⟨q, hc⟩ | ⟨q, hc⟩
        · cases q
        · rw [Prod.mk.injEq] at q
          exact ⟨c, .inl ⟨by rw [Prod.mk.injEq]; exact ⟨rfl, by omega⟩, by omega⟩⟩
      · rcases ih with ⟨q, hc⟩ | ⟨q, hc⟩
        · cases q
        · rw [Prod.mk.injEq] at q
          refine ⟨c + 1, .inl ⟨by rw [Prod.mk.injEq, Int.add_mul]; exact ⟨rfl, by omega⟩, ?_⟩⟩
          have : 2 * (c + 1) - 1 ≠ m := fun z => hn (by rw [(hlk (c + 1)).2 z, Int.add_mul, show x = aj + (c * st + 1 * st) by omega])
          omega
  obtain ⟨c, ⟨q, _⟩ | ⟨q, hc⟩⟩ := key _ hr
  · cases q
  · rw [Prod.mk.injEq] at q
    have : (c - t) * st = 0 := by rw [Int.sub_mul]; omega
    rcases Int.mul_eq_zero.mp this with z | z
    · omega
    · exact hst z
end Mini.K28

set_option linter.all false
set_option maxRecDepth 100000
/-! printed by mkL.py: pieces of M_k28.lean, then L_k28b.body -/
namespace Mini.K28
open Mini Mini.LibT Mini.LibR PySem
open Mini.Lib (rangeD_succ perm_out for_all for_inv comp_filter comp_map)
def zigzag_looks_0 : EvS := (sSet 4 (eOp oSub (eOp oIx (eVar 1) (eVar 2)) (eOp oIx (eVar 1) (eVar 3))))
def zigzag_looks_1t : EvS := (sRet (eC .non))
def zigzag_looks_1 : EvS := (sIf (tBl (eOp oEq (eVar 4) (eInt 0))) zigzag_looks_1t sPass)
def zigzag_looks_2 : EvS := (sGet (gTp (gMore (gNm 6) (gMore (gNm 7) gNone))) (eB bDivmod (aCons (eOp oSub (eInt 0) (eOp oIx (eVar 1) (eVar 2))) (aCons (eVar 4) aNil))))
def zigzag_looks_3t : EvS := (sRet (eC .non))
def zigzag_looks_3 : EvS := (sIf (tOr (tBl (eOp oNe (eVar 7) (eInt 0))) (tBl (eOp oLt (eVar 6) (eInt 1)))) zigzag_looks_3t sPass)
def zigzag_looks_4_c0 : EvE := (eComp (iRange1 (aCons (eOp oAdd (eVar 6) (eInt 1)) aNil)) (gNm 8) tYes (eTup (aCons (eVar 2) (aCons (eOp oAdd (eOp oIx (eVar 0) (eVar 2)) (eOp oMul (eVar 8) (eVar 4))) aNil))) [8])
def zigzag_looks_4 : EvS := (sSet 5 zigzag_looks_4_c0)
def zigzag_looks_5_c0 : EvE := (eComp (iRange2 (aCons (eInt 1) (aCons (eOp oAdd (eVar 6) (eInt 1)) aNil))) (gNm 8) tYes (eTup (aCons (eVar 3) (aCons (eOp oAdd (eOp oIx (eVar 0) (eVar 3)) (eOp oMul (eVar 8) (eVar 4))) aNil))) [8])
def zigzag_looks_5 : EvS := (sRet (eB bSort (aCons (eOp oAdd (eVar 5) zigzag_looks_5_c0) aNil)))
theorem zigzag_looks_eq : F_zigzag_looks = runDef 9 (sSeq zigzag_looks_0 (sSeq zigzag_looks_1 (sSeq zigzag_looks_2 (sSeq zigzag_looks_3 (sSeq zigzag_looks_4 zigzag_looks_5))))) := rfl
def two_routes_0 : EvS := (sDrop (eCall F_check_lates (aCons (eLst (aCons (eVar 0) (aCons (eVar 1) aNil))) (aCons (eInt 0) aNil))))
def two_routes_1t : EvS := (sRaise1 "BadRoutes" "what" (eStr "size"))
def two_routes_1 : EvS := (sIf (tBl (eOp oNe (eB bLen (aCons (eVar 0) aNil)) (eInt 2))) two_routes_1t sPass)
def two_routes_2 : EvS := (sSet 2 (eCall F_late_shifts (aCons (eVar 0) (aCons (eVar 1) aNil))))
def two_routes_3_c0 : EvE := (eComp (iRange1 (aCons (eInt 2) aNil)) (gNm 5) (tBl (eOp oEq (eOp oIx (eVar 2) (eVar 5)) (eInt 0))) (eTup (aCons (eOp oIx (eVar 0) (eVar 5)) (aCons (eVar 5) aNil))) [5])
def two_routes_3 : EvS := (sSet 3 two_routes_3_c0)
def two_routes_4t_0 : EvS := (sGet (gTp (gMore (gNm 6) (gMore (gNm 5) gNone))) (eB bMinL (aCons (eVar 3) aNil)))
def two_routes_4t_1 : EvS := (sRet (eLst (aCons (eTup (aCons (eVar 5) (aCons (eVar 6) aNil))) aNil)))
def two_routes_4 : EvS := (sIf (tTru (eVar 3)) (sSeq two_routes_4t_0 two_routes_4t_1) sPass)
def two_routes_5 : EvS := (sSet 4 (eCall F_zigzag_looks (aCons (eVar 0) (aCons (eVar 2) (aCons (eInt 0) (aCons (eInt 1) aNil))))))
def two_routes_6 : EvS := (sRet (eIf (tNoneV 4) (eCall F_zigzag_looks (aCons (eVar 0) (aCons (eVar 2) (aCons (eInt 1) (aCons (eInt 0) aNil))))) (eOwn 4)))
theorem two_routes_eq : F_two_routes = runDef 7 (sSeq two_routes_0 (sSeq two_routes_1 (sSeq two_routes_2 (sSeq two_routes_3 (sSeq two_routes_4 (sSeq two_routes_5 two_routes_6)))))) := rfl
def route_lag_0t : EvS := (sRaise1 "BadRoutes" "what" (eStr "size"))
def route_lag_0 : EvS := (sIf (tNot (tTru (eVar 0))) route_lag_0t sPass)
def route_lag_1_c0 : EvE := (eComp (iAny (eVar 0)) (gNm 2) tYes (eOp oIx (eVar 2) (eInt 1)) [2])
def route_lag_1 : EvS := (sSet 1 route_lag_1_c0)
def route_lag_2 : EvS := (sRet (eTup (aCons (eB bMaxL (aCons (eVar 1) aNil)) (aCons (eOp oAdd (eOp oSub (eB bMaxL (aCons (eVar 1) aNil)) (eB bMinL (aCons (eVar 1) aNil))) (eInt 1)) aNil))))
theorem route_lag_eq : F_route_lag = runDef 3 (sSeq route_lag_0 (sSeq route_lag_1 route_lag_2)) := rfl
/-! ### likeness -/
section
variable (F : Fn)
def sameF : Fn := runDef 6
  (sSeq (sIf (tBl (eOp1 oIsN (eVar 1))) (sRet (eOp1 oIsN (eVar 0))) sPass) (sSeq (sIf (tTru (eIsA (eVar 1) .bool)) (sRet (eAnd (eIsA (eVar 0) .bool) (eOp oEq (eVar 0) (eVar 1)))) sPass) (sSeq (sIf (tTru (eIsA (eVar 1) .int)) (sRet (eAnd (eIsA (eVar 0) .int) (eAnd (eNot (eIsA (eVar 0) .bool)) (eOp oEq (eVar 0) (eVar 1))))) sPass) (sSeq (sIf (tTru (eIsA (eVar 1) .str)) (sRet (eAnd (eIsA (eVar 0) .str) (eOp oEq (eVar 0) (eVar 1)))) sPass) (sSeq (sIf (tTru (eIsA (eVar 1) .dict)) sNo sPass) (sSeq (sIf (tTru (eIsA (eVar 1) .tuple)) (sSet 2 (eIsA (eVar 0) .tuple)) (sSet 2 (eIsA (eVar 0) .list))) (sRet (eAnd (eVar 2) (eAnd (eOp oEq (eB bLen (aCons (eVar 0) aNil)) (eB bLen (aCons (eVar 1) aNil))) (eB bAll (aCons (eComp (iZip3 (aCons (eVar 0) (aCons (eVar 1) aNil))) (gTp (gMore (gNm 4) (gMore (gNm 5) gNone))) tYes (eCall F (aCons (eVar 4) (aCons (eVar 5) aNil))) [4, 5]) aNil)))))))))))
theorem same1_def : F_law_same_1 = sameF F_law_same_0 := rfl
theorem same2_def : F_law_same_2 = sameF F_law_same_1 := rfl
theorem zip_self : ∀ ds : List D, ((ds.zip ds).map fun p => D.tup [p.1, p.2]) = ds.map fun d => D.tup [d, d]
  | [] => rfl
  | d :: ds => by simp only [List.zip_cons_cons, List.map_cons, zip_self ds]
theorem sameF_ok (t : Bool) (ds : List D) (hl : ds.length ≤ 1000) (om : List Cell) (h : ∀ d ∈ ds, F [d, d] om = .ok (.sh (.bl true)) om) : sameF F [sq t ds, sq t ds] om = .ok (.sh (.bl true)) om := by
  have cm := comp_eval (it := iZip3 (aCons (eVar 0) (aCons (eVar 1) aNil))) (g := gTp (gMore (gNm 4) (gMore (gNm 5) gNone))) (e := eCall F (aCons (eVar 4) (aCons (eVar 5) aNil))) (vs := [4, 5]) (st := ⟨[some (.sh (sq t ds)), some (.sh (sq t ds)), some (.sh (.bl true)), none, none, none], om⟩) (fun d : D => .tup [d, d]) (fun _ => .bl true) ds (by rw [← zip_self]; cases t <;> simp) (by simp) (by omega)
    (fun d hd => ⟨⟨[some (.sh (sq t ds)), some (.sh (sq t ds)), some (.sh (.bl true)), none, some (.sh d), some (.sh d)], om⟩, .sh (.bl true), ⟨[some (.sh (sq t ds)), some (.sh (sq t ds)), some (.sh (.bl true)), none, some (.sh d), some (.sh d)], om⟩, rfl, by simp [h d hd], rfl, rfl, rfl⟩) (by simp)
  have ce : bAll [.lst (ds.map fun _ => D.bl true)] = some (.sh (.bl true)) := by
    have := bi_all (ds.map fun _ => true)
    rw [List.map_map] at this
    rw [show (D.bl ∘ fun _ : D => true) = fun _ => D.bl true from rfl] at this
    rw [this]
    simp
  obtain ⟨Y, hY⟩ : ∃ Y, Y = ds.map fun _ => D.bl true := ⟨_, rfl⟩
  rw [← hY] at cm ce
  obtain ⟨C, hC⟩ : ∃ C, C = eComp (iZip3 (aCons (eVar 0) (aCons (eVar 1) aNil))) (gTp (gMore (gNm 4) (gMore (gNm 5) gNone))) tYes (eCall F (aCons (eVar 4) (aCons (eVar 5) aNil))) [4, 5] := ⟨_, rfl⟩
  unfold sameF
  rw [← hC] at cm ⊢
  cases t
  · simp only [sq_l] at cm ⊢
    simp [cm, ce]
  · simp only [sq_t] at cm ⊢
    simp [cm, ce]
end
theorem same0_int (i : Int) (om : List Cell) : F_law_same_0 [.int i, .int i] om = .ok (.sh (.bl true)) om := by simp [F_law_same_0]
theorem same1_ints (t : Bool) (xs : List Int) (hl : xs.length ≤ 1000) (om : List Cell) : F_law_same_1 [sq t (intsD xs), sq t (intsD xs)] om = .ok (.sh (.bl true)) om := by
  rw [same1_def]
  refine sameF_ok _ t _ (by simpa using hl) om fun d hd => ?_
  obtain ⟨i, _, rfl⟩ := List.mem_map.mp hd
  exact same0_int i om
theorem same1_int (i : Int) (om : List Cell) : F_law_same_1 [.int i, .int i] om = .ok (.sh (.bl true)) om := by simp [F_law_same_1]
theorem same2_non (om : List Cell) : F_law_same_2 [.non, .non] om = .ok (.sh (.bl true)) om := by simp [F_law_same_2]
theorem same2_pds (ps : List Pt) (hl : ps.length ≤ 1000) (om : List Cell) : F_law_same_2 [.lst (ps.map pd), .lst (ps.map pd)] om = .ok (.sh (.bl true)) om := by
  rw [same2_def]
  refine sameF_ok _ false _ (by simpa using hl) om fun d hd => ?_
  obtain ⟨p, _, rfl⟩ := List.mem_map.mp hd
  exact same1_ints true [p.1, p.2] (by simp) om
theorem same2_tup (xs : List Int) (hl : xs.length ≤ 1000) (om : List Cell) : F_law_same_2 [.tup (intsD xs), .tup (intsD xs)] om = .ok (.sh (.bl true)) om := by
  rw [same2_def]
  refine sameF_ok _ true _ (by simpa using hl) om fun d hd => ?_
  obtain ⟨i, _, rfl⟩ := List.mem_map.mp hd
  exact same1_int i om
/-! ### the order of looks -/
theorem bsort_pd (ps : List Pt) (hl : ps.length ≤ 1000) : bSort [.lst (ps.map pd)] = some (.ow ((psort ps).map pd)) := by
  have c : ((D.lst (ps.map pd)).fine deep && (allAlike (ps.map pd) && (sortable (ps.map pd) && decide ((ps.map pd).length ≤ many)))) = true := by
    have h1 : (D.lst (ps.map pd)).fine deep = true := by
      rw [deep_s, fine_lst]
      refine fines_all fun x hx => ?_
      obtain ⟨p, _, rfl⟩ := List.mem_map.mp hx
      simp [pd]
    have h2 : allAlike (ps.map pd) = true := by
      unfold allAlike
      rw [List.all_eq_true]
      intro x hx
      rw [List.all_eq_true]
      intro y hy
      obtain ⟨p, _, rfl⟩ := List.mem_map.mp hx
      obtain ⟨q, _, rfl⟩ := List.mem_map.mp hy
      rfl
    have h3 : sortable (ps.map pd) = true := by
      unfold sortable
      rw [Bool.or_eq_true]
      left
      rw [List.all_eq_true]
      intro x hx
      obtain ⟨p, _, rfl⟩ := List.mem_map.mp hx
      rfl
    rw [h1, h2, h3]
    simp only [List.length_map, many_n, Bool.true_and, decide_eq_true_eq]
    omega
  show (if ((D.lst (ps.map pd)).fine deep && (allAlike (ps.map pd) && (sortable (ps.map pd) && decide ((ps.map pd).length ≤ many)))) = true then some (Vl.ow (dsort (ps.map pd))) else none) = _
  rw [if_pos c, dsort_pd]
theorem bmin_pd1 (p : Pt) : bMinL [.lst [pd p]] = some (.sh (pd p)) := by
  have c : ((D.lst [pd p]).fine deep && (allAlike [pd p] && [pd p].all fun y => !y.isNon)) = true := by
    have h1 : (D.lst [pd p]).fine deep = true := by simp [pd]
    have h2 : allAlike [pd p] = true := rfl
    rw [h1, h2]; rfl
  show (if ((D.lst [pd p]).fine deep && (allAlike [pd p] && [pd p].all fun y => !y.isNon)) = true then some (Vl.sh (dmin (pd p) [])) else none) = _
  rw [if_pos c]
  rfl
theorem bmin_pd2 (p q : Pt) : bMinL [.lst [pd p, pd q]] = some (.sh (if plt q p = true then pd q else pd p)) := by
  have c : ((D.lst [pd p, pd q]).fine deep && (allAlike [pd p, pd q] && [pd p, pd q].all fun y => !y.isNon)) = true := by
    have h1 : (D.lst [pd p, pd q]).fine deep = true := by simp [pd]
    have h2 : allAlike [pd p, pd q] = true := rfl
    rw [h1, h2]; rfl
  have e : dmin (pd p) [pd q] = if plt q p = true then pd q else pd p := by rw [← lt_pd]; rfl
  rw [← e]
  show (if ((D.lst [pd p, pd q]).fine deep && (allAlike [pd p, pd q] && [pd p, pd q].all fun y => !y.isNon)) = true then some (Vl.sh (dmin (pd p) [pd q])) else none) = _
  rw [if_pos c]
/-! ### the program's path -/
abbrev zl (a0 a1 a2 a3 a4 a5 a6 a7 a8 : Option Vl) : List (Option Vl) := [a0, a1, a2, a3, a4, a5, a6, a7, a8]
def outD (o : Option (List Pt)) : Vl := match o with
  | none => .sh .non
  | some l => .ow (l.map pd)
section
variable {A S : D} {i j ai aj si sj : Int} (hA : oIx A (.int i) = some (.sh (.int ai))) (hA2 : oIx A (.int j) = some (.sh (.int aj))) (hS : oIx S (.int i) = some (.sh (.int si))) (hS2 : oIx S (.int j) = some (.sh (.int sj))) (b1 : si.natAbs ≤ 60) (b2 : sj.natAbs ≤ 60) (om : List Cell)
include hA hA2 hS hS2 b1 b2
theorem zig_ok : F_zigzag_looks [A, S, .int i, .int j] om = .ok (outD (zig i j ai aj si sj)) om := by
  rw [zigzag_looks_eq]
  by_cases c : si - sj = 0
  · have : times si sj = none := if_pos c
    simp [zigzag_looks_0, zigzag_looks_1, zigzag_looks_1t, hS, hS2, c, zig, this, outD]
  · have dm := bi_divmod (i := 0 - si) (j := si - sj) c (by omega) (by omega)
    obtain ⟨st, hst⟩ : ∃ st, st = si - sj := ⟨_, rfl⟩
    have st64 : st.natAbs < 2 ^ 64 := by omega
    rw [← hst] at dm c
    obtain ⟨q, hq⟩ : ∃ q, q = (0 - si).fdiv st := ⟨_, rfl⟩
    obtain ⟨r, hr⟩ : ∃ r, r = (0 - si).fmod st := ⟨_, rfl⟩
    rw [← hq, ← hr] at dm
    have z0 : zigzag_looks_0 ⟨zl (some (.sh A)) (some (.sh S)) (some (.sh (.int i))) (some (.sh (.int j))) none none none none none, om⟩ = .nx ⟨zl (some (.sh A)) (some (.sh S)) (some (.sh (.int i))) (some (.sh (.int j))) (some (.sh (.int st))) none none none none, om⟩ := by simp [zigzag_looks_0, hS, hS2, hst]
    have z1 : zigzag_looks_1 ⟨zl (some (.sh A)) (some (.sh S)) (some (.sh (.int i))) (some (.sh (.int j))) (some (.sh (.int st))) none none none none, om⟩ = .nx ⟨zl (some (.sh A)) (some (.sh S)) (some (.sh (.int i))) (some (.sh (.int j))) (some (.sh (.int st))) none none none none, om⟩ := by simp [zigzag_looks_1, c]
    have z2 : zigzag_looks_2 ⟨zl (some (.sh A)) (some (.sh S)) (some (.sh (.int i))) (some (.sh (.int j))) (some (.sh (.int st))) none none none none, om⟩ = .nx ⟨zl (some (.sh A)) (some (.sh S)) (some (.sh (.int i))) (some (.sh (.int j))) (some (.sh (.int st))) none (some (.sh (.int q))) (some (.sh (.int r))) none, om⟩ := by
      rw [Int.zero_sub] at dm
      simp [zigzag_looks_2, hS, dm]
    have zz : ∀ v, (sSeq zigzag_looks_3 (sSeq zigzag_looks_4 zigzag_looks_5) ⟨zl (some (.sh A)) (some (.sh S)) (some (.sh (.int i))) (some (.sh (.int j))) (some (.sh (.int st))) none (some (.sh (.int q))) (some (.sh (.int r))) none, om⟩).toF = v → runDef 9 (sSeq zigzag_looks_0 (sSeq zigzag_looks_1 (sSeq zigzag_looks_2 (sSeq zigzag_looks_3 (sSeq zigzag_looks_4 zigzag_looks_5))))) [A, S, .int i, .int j] om = v := by
      rintro v rfl
      have : runDef 9 (sSeq zigzag_looks_0 (sSeq zigzag_looks_1 (sSeq zigzag_looks_2 (sSeq zigzag_looks_3 (sSeq zigzag_looks_4 zigzag_looks_5))))) [A, S, .int i, .int j] om = ((sSeq zigzag_looks_0 (sSeq zigzag_looks_1 (sSeq zigzag_looks_2 (sSeq zigzag_looks_3 (sSeq zigzag_looks_4 zigzag_looks_5))))) ⟨zl (some (.sh A)) (some (.sh S)) (some (.sh (.int i))) (some (.sh (.int j))) none none none none none, om⟩).toF := rfl
      rw [this]
      simp only [x_seq, z0, z1, z2, o_nx]
    refine zz _ ?_
    by_cases d : r ≠ 0 ∨ q < 1
    · have : times si sj = none := by unfold times; rw [← hst, if_neg c, ← hr, ← hq, if_pos d]
      have z3 : zigzag_looks_3 ⟨zl (some (.sh A)) (some (.sh S)) (some (.sh (.int i))) (some (.sh (.int j))) (some (.sh (.int st))) none (some (.sh (.int q))) (some (.sh (.int r))) none, om⟩ = .rt (.sh .non) ⟨zl (some (.sh A)) (some (.sh S)) (some (.sh (.int i))) (some (.sh (.int j))) (some (.sh (.int st))) none (some (.sh (.int q))) (some (.sh (.int r))) none, om⟩ := by
        by_cases d0 : r = 0
        · have d1 : q < 1 := d.resolve_left fun z => z d0
          simp [zigzag_looks_3, zigzag_looks_3t, d0, d1]
        · simp [zigzag_looks_3, zigzag_looks_3t, d0]
      simp only [x_seq, z3, o_rt, toF_rt, zig, this, Option.map_none, outD]
    · have ht : times si sj = some q.toNat := by unfold times; rw [← hst, if_neg c, ← hr, ← hq, if_neg d]
      rw [not_or] at d
      have d0 : r = 0 := Classical.byContradiction fun z => d.1 z
      obtain ⟨t, hqt⟩ := Int.eq_ofNat_of_zero_le (show 0 ≤ q by omega)
      rw [hqt, Int.toNat_natCast] at ht
      have t3 := times_some.mp ht
      have tle : t ≤ 60 := by
        have h1 : t ∣ si.natAbs := by
          rw [show si.natAbs = (-si).natAbs by omega, ← t3.2.2, Int.natAbs_mul, Int.natAbs_natCast]
          exact Nat.dvd_mul_right _ _
        have h2 : 0 < si.natAbs := by
          rw [show si.natAbs = (-si).natAbs by omega, ← t3.2.2, Int.natAbs_mul, Int.natAbs_natCast]
          exact Nat.mul_pos (by omega) (by omega)
        have := Nat.le_of_dvd h2 h1
        omega
      have z3 : zigzag_looks_3 ⟨zl (some (.sh A)) (some (.sh S)) (some (.sh (.int i))) (some (.sh (.int j))) (some (.sh (.int st))) none (some (.sh (.int q))) (some (.sh (.int r))) none, om⟩ = .nx ⟨zl (some (.sh A)) (some (.sh S)) (some (.sh (.int i))) (some (.sh (.int j))) (some (.sh (.int st))) none (some (.sh (.int q))) (some (.sh (.int r))) none, om⟩ := by
        simp [zigzag_looks_3, d0, show ¬ q < 1 from d.2]
      have c0 := comp_eval (it := iRange1 (aCons (eOp oAdd (eVar 6) (eInt 1)) aNil)) (g := gNm 8) (e := eTup (aCons (eVar 2) (aCons (eOp oAdd (eOp oIx (eVar 0) (eVar 2)) (eOp oMul (eVar 8) (eVar 4))) aNil))) (vs := [8]) (st := ⟨zl (some (.sh A)) (some (.sh S)) (some (.sh (.int i))) (some (.sh (.int j))) (some (.sh (.int st))) none (some (.sh (.int q))) (some (.sh (.int r))) none, om⟩)
        (fun k : Nat => D.int (0 + (k : Int))) (fun k : Nat => pd (i, ai + (0 + (k : Int)) * st)) (List.range (t + 1)) (by
          have : (q + 1).toNat = t + 1 := by omega
          simp [show q + 1 < 4000000000000000000 by omega, show (-4000000000000000000 : Int) ≤ q + 1 by omega, rangeD, this]) (by simp) (by rw [List.length_range]; omega)
        (fun k _ => ⟨⟨zl (some (.sh A)) (some (.sh S)) (some (.sh (.int i))) (some (.sh (.int j))) (some (.sh (.int st))) none (some (.sh (.int q))) (some (.sh (.int r))) (some (.sh (.int (0 + (k : Int))))), om⟩, .sh (pd (i, ai + (0 + (k : Int)) * st)), ⟨zl (some (.sh A)) (some (.sh S)) (some (.sh (.int i))) (some (.sh (.int j))) (some (.sh (.int st))) none (some (.sh (.int q))) (some (.sh (.int r))) (some (.sh (.int (0 + (k : Int))))), om⟩, rfl, by simp [hA, pd, v_mul_r st64], rfl, rfl, rfl⟩) (by simp)
      have c0 : zigzag_looks_4_c0 _ = _ := c0
      obtain ⟨L0, hL0⟩ : ∃ L, L = (List.range (t + 1)).map fun k : Nat => pd (i, ai + (0 + (k : Int)) * st) := ⟨_, rfl⟩
      have l0 : L0.length = t + 1 := by rw [hL0]; simp
      rw [← hL0] at c0
      have c1 := comp_eval (it := iRange2 (aCons (eInt 1) (aCons (eOp oAdd (eVar 6) (eInt 1)) aNil))) (g := gNm 8) (e := eTup (aCons (eVar 3) (aCons (eOp oAdd (eOp oIx (eVar 0) (eVar 3)) (eOp oMul (eVar 8) (eVar 4))) aNil))) (vs := [8]) (st := ⟨zl (some (.sh A)) (some (.sh S)) (some (.sh (.int i))) (some (.sh (.int j))) (some (.sh (.int st))) (some (.sh (.lst L0))) (some (.sh (.int q))) (some (.sh (.int r))) none, om⟩)
        (fun k : Nat => D.int (1 + (k : Int))) (fun k : Nat => pd (j, aj + (1 + (k : Int)) * st)) (List.range t) (by
          have : (q + 1 - 1).toNat = t := by omega
          simp [show q + 1 < 4000000000000000000 by omega, show (-4000000000000000000 : Int) ≤ q + 1 by omega, rangeD, show q.toNat = t by omega]) (by simp) (by rw [List.length_range]; omega)
        (fun k _ => ⟨⟨zl (some (.sh A)) (some (.sh S)) (some (.sh (.int i))) (some (.sh (.int j))) (some (.sh (.int st))) (some (.sh (.lst L0))) (some (.sh (.int q))) (some (.sh (.int r))) (some (.sh (.int (1 + (k : Int))))), om⟩, .sh (pd (j, aj + (1 + (k : Int)) * st)), ⟨zl (some (.sh A)) (some (.sh S)) (some (.sh (.int i))) (some (.sh (.int j))) (some (.sh (.int st))) (some (.sh (.lst L0))) (some (.sh (.int q))) (some (.sh (.int r))) (some (.sh (.int (1 + (k : Int))))), om⟩, rfl, by simp [hA2, pd, v_mul_r st64], rfl, rfl, rfl⟩) (by simp)
      have c1 : zigzag_looks_5_c0 _ = _ := c1
      obtain ⟨L1, hL1⟩ : ∃ L, L = (List.range t).map fun k : Nat => pd (j, aj + (1 + (k : Int)) * st) := ⟨_, rfl⟩
      have l1 : L1.length = t := by rw [hL1]; simp
      rw [← hL1] at c1
      have hs : bSort [.lst (L0 ++ L1)] = some (.ow ((psort (raw i j ai aj st t)).map pd)) := by
        rw [← bsort_pd (raw i j ai aj st t) (by unfold raw; simp; omega), hL0, hL1]
        congr 3
        unfold raw
        rw [List.map_append, List.map_map, List.map_map]
        rfl
      simp only [x_seq, z3, o_nx, zigzag_looks_4, x_set, c0, zigzag_looks_5]
      have hz : zig i j ai aj si sj = some (psort (raw i j ai aj st t)) := by simp only [zig, ht, Option.map_some, ← hst]
      rw [hz]
      simp [c1, hs, outD, show L0.length + L1.length ≤ 100000 by omega]
end
end Mini.K28

set_option linter.all false
set_option maxRecDepth 100000
/-! printed by mkL.py: pieces of M_k28.lean, then L_k28c.body -/
namespace Mini.K28
open Mini Mini.LibT Mini.LibR PySem
open Mini.Lib (rangeD_succ perm_out for_all for_inv comp_filter comp_map)
/-! ### two_routes -/
abbrev tr (a0 a1 a2 a3 a4 a5 a6 : Option Vl) : List (Option Vl) := [a0, a1, a2, a3, a4, a5, a6]
/-- the even routes -/
def evens (c0 c1 : Bool) : List Nat := (List.range 2).filter fun k : Nat => if k = 0 then c0 else c1
theorem evens_tt : evens true true = [0, 1] := by decide
theorem evens_tf : evens true false = [0] := by decide
theorem evens_ft : evens false true = [1] := by decide
theorem evens_ff : evens false false = [] := by decide
theorem evens_len (c0 c1 : Bool) : (evens c0 c1).length ≤ 2 := by cases c0 <;> cases c1 <;> decide
def late2 (a0 a1 : Int) (k : Nat) : Int := if k = 0 then a0 else a1
/-- the least of them -/
theorem min_evens {a0 a1 b0 b1 : Int} (h : a0 = b0 ∨ a1 = b1) : ∃ x i : Int, first a0 a1 b0 b1 = (i, x) ∧ bMinL [.lst ((evens (a0 == b0) (a1 == b1)).map fun k : Nat => pd (late2 a0 a1 k, (k : Int)))] = some (.sh (pd (x, i))) := by
  by_cases c0 : a0 = b0
  · by_cases c1 : a1 = b1
    · rw [beq_iff_eq.mpr c0, beq_iff_eq.mpr c1, evens_tt]
      have e : ([0, 1] : List Nat).map (fun k : Nat => pd (late2 a0 a1 k, (k : Int))) = [pd (a0, 0), pd (a1, 1)] := rfl
      rw [e, bmin_pd2]
      have p : plt (a1, 1) (a0, 0) = decide (a1 < a0) := by simp [plt]
      rw [p]
      by_cases d : a1 < a0
      · exact ⟨a1, 1, by unfold first; rw [if_pos c0, if_pos ⟨c1, d⟩], by rw [if_pos (decide_eq_true d)]⟩
      · exact ⟨a0, 0, by unfold first; rw [if_pos c0, if_neg fun z => d z.2], by rw [if_neg (by simpa using d)]⟩
    · rw [beq_iff_eq.mpr c0, beq_eq_false_iff_ne.mpr c1, evens_tf]
      exact ⟨a0, 0, by unfold first; rw [if_pos c0, if_neg fun z => c1 z.1], bmin_pd1 (a0, 0)⟩
  · have c1 := h.resolve_left c0
    rw [beq_eq_false_iff_ne.mpr c0, beq_iff_eq.mpr c1, evens_ft]
    exact ⟨a1, 1, by unfold first; rw [if_neg c0], bmin_pd1 (a1, 1)⟩
section
variable {a0 a1 b0 b1 : Int} (ha0 : 0 ≤ a0 ∧ a0 ≤ 60) (ha1 : 0 ≤ a1 ∧ a1 ≤ 60) (hb0 : 0 ≤ b0 ∧ b0 ≤ 60) (hb1 : 0 ≤ b1 ∧ b1 ≤ 60) (om : List Cell)
include ha0 ha1 hb0 hb1
theorem no_err : latesErr [[a0, a1], [b0, b1]] 0 = none := by
  refine err_none 0 ⟨by simp, ?_⟩ ⟨by simp, ?_⟩ (by simp) rfl ?_ ?_ <;> intro x hx <;> simp only [List.mem_cons, List.mem_nil_iff, or_false] at hx <;> rcases hx with rfl | rfl <;> omega
theorem two_ok : F_two_routes [.lst (intsD [a0, a1]), .lst (intsD [b0, b1])] om = .ok (outD (due a0 a1 b0 b1)) om := by
  have ck := check2 false false [a0, a1] [b0, b1] (by simp) (by simp) om
  rw [no_err ha0 ha1 hb0 hb1] at ck
  have sh := ls_ok [a0, a1] [b0, b1] false (by simp) om
  have eS : shifts [a0, a1] [b0, b1] = [a0 - b0, a1 - b1] := rfl
  rw [eS] at sh
  simp only [sq_l] at ck sh
  obtain ⟨A, hA⟩ : ∃ A, A = intsD [a0, a1] := ⟨_, rfl⟩
  obtain ⟨B, hB⟩ : ∃ A, A = intsD [b0, b1] := ⟨_, rfl⟩
  obtain ⟨S, hS⟩ : ∃ A, A = intsD [a0 - b0, a1 - b1] := ⟨_, rfl⟩
  rw [← hA, ← hB] at ck sh ⊢
  rw [← hS] at sh
  have lA : A.length = 2 := by rw [hA]; rfl
  have iA0 : oIx (.lst A) (.int 0) = some (.sh (.int a0)) := by rw [hA]; simp
  have iA1 : oIx (.lst A) (.int 1) = some (.sh (.int a1)) := by rw [hA]; simp
  have iS0 : oIx (.lst S) (.int 0) = some (.sh (.int (a0 - b0))) := by rw [hS]; simp
  have iS1 : oIx (.lst S) (.int 1) = some (.sh (.int (a1 - b1))) := by rw [hS]; simp
  have t0 : two_routes_0 ⟨tr (some (.sh (.lst A))) (some (.sh (.lst B))) none none none none none, om⟩ = .nx ⟨tr (some (.sh (.lst A))) (some (.sh (.lst B))) none none none none none, om⟩ := by simp [two_routes_0, ck]
  have t1 : two_routes_1 ⟨tr (some (.sh (.lst A))) (some (.sh (.lst B))) none none none none none, om⟩ = .nx ⟨tr (some (.sh (.lst A))) (some (.sh (.lst B))) none none none none none, om⟩ := by simp [two_routes_1, lA]
  have t2 : two_routes_2 ⟨tr (some (.sh (.lst A))) (some (.sh (.lst B))) none none none none none, om⟩ = .nx ⟨tr (some (.sh (.lst A))) (some (.sh (.lst B))) (some (.ow S)) none none none none, om⟩ := by simp [two_routes_2, sh]
  have q0 : ∀ st : St, st.env.length = 7 → rangeD 0 2 = [D.int 0, D.int 1] := fun _ _ => by simp [rangeD, List.range_succ]
  have r2 : rangeD 0 2 = [D.int 0, D.int 1] := by simp [rangeD, List.range_succ]
  obtain ⟨E, hE⟩ : ∃ E, E = (evens (a0 == b0) (a1 == b1)).map fun k : Nat => pd (late2 a0 a1 k, (k : Int)) := ⟨_, rfl⟩
  have t3 : two_routes_3 ⟨tr (some (.sh (.lst A))) (some (.sh (.lst B))) (some (.ow S)) none none none none, om⟩ = .nx ⟨tr (some (.sh (.lst A))) (some (.sh (.lst B))) (some (.sh (.lst S))) (some (.ow E)) none none none, om⟩ := by
    have e0 : (a0 - b0 == 0) = (a0 == b0) := by rw [Bool.eq_iff_iff, beq_iff_eq, beq_iff_eq]; omega
    have e1 : (a1 - b1 == 0) = (a1 == b1) := by rw [Bool.eq_iff_iff, beq_iff_eq, beq_iff_eq]; omega
    cases c0 : (a0 == b0) <;> cases c1 : (a1 == b1) <;> rw [c0] at e0 hE <;> rw [c1] at e1 hE <;> simp only [evens_tt, evens_tf, evens_ft, evens_ff, List.map_cons, List.map_nil] at hE <;> simp [hE, two_routes_3, two_routes_3_c0, x_compCons, r2, iA0, iA1, iS0, iS1, e0, e1, pd, late2]
  have lE : E.length ≤ 2 := by rw [hE, List.length_map]; exact evens_len _ _
  rw [two_routes_eq]
  have z : ∀ v, (sSeq two_routes_4 (sSeq two_routes_5 two_routes_6) ⟨tr (some (.sh (.lst A))) (some (.sh (.lst B))) (some (.sh (.lst S))) (some (.ow E)) none none none, om⟩).toF = v → runDef 7 (sSeq two_routes_0 (sSeq two_routes_1 (sSeq two_routes_2 (sSeq two_routes_3 (sSeq two_routes_4 (sSeq two_routes_5 two_routes_6)))))) [.lst A, .lst B] om = v := by
    rintro v rfl
    have : runDef 7 (sSeq two_routes_0 (sSeq two_routes_1 (sSeq two_routes_2 (sSeq two_routes_3 (sSeq two_routes_4 (sSeq two_routes_5 two_routes_6)))))) [.lst A, .lst B] om = ((sSeq two_routes_0 (sSeq two_routes_1 (sSeq two_routes_2 (sSeq two_routes_3 (sSeq two_routes_4 (sSeq two_routes_5 two_routes_6)))))) ⟨tr (some (.sh (.lst A))) (some (.sh (.lst B))) none none none none none, om⟩).toF := rfl
    rw [this]
    simp only [x_seq, t0, t1, t2, t3, o_nx]
  refine z _ ?_
  by_cases c : a0 = b0 ∨ a1 = b1
  · obtain ⟨x, i, hf, hm⟩ := min_evens c
    rw [← hE] at hm
    have hne : E.isEmpty = false := by
      cases h : E with
      | nil => rw [h] at hm; simp [bMinL] at hm
      | cons _ _ => rfl
    have hd : due a0 a1 b0 b1 = some [(i, x)] := by rw [← hf]; exact if_pos c
    rw [hd]
    simp [two_routes_4, two_routes_4t_0, two_routes_4t_1, hne, hm, pd, outD]
  · have hE0 : E = [] := by
      rw [not_or] at c
      rw [hE, beq_eq_false_iff_ne.mpr c.1, beq_eq_false_iff_ne.mpr c.2, evens_ff]
      rfl
    subst hE0
    have g0 := zig_ok (A := .lst A) (S := .lst S) iA0 iA1 iS0 iS1 (by omega) (by omega) om
    have g1 := zig_ok (A := .lst A) (S := .lst S) iA1 iA0 iS1 iS0 (by omega) (by omega) om
    have hd : due a0 a1 b0 b1 = match zig 0 1 a0 a1 (a0 - b0) (a1 - b1) with
      | some l => some l
      | none => zig 1 0 a1 a0 (a1 - b1) (a0 - b0) := if_neg c
    rw [hd]
    cases h0 : zig 0 1 a0 a1 (a0 - b0) (a1 - b1) with
    | some l =>
      rw [h0] at g0
      simp only [outD] at g0
      simp [two_routes_4, two_routes_5, two_routes_6, g0, outD]
    | none =>
      rw [h0] at g0
      simp only [outD] at g0
      cases h1 : zig 1 0 a1 a0 (a1 - b1) (a0 - b0) with
      | some l =>
        rw [h1] at g1
        simp only [outD] at g1
        simp [two_routes_4, two_routes_5, two_routes_6, g0, g1, outD]
      | none =>
        rw [h1] at g1
        simp only [outD] at g1
        simp [two_routes_4, two_routes_5, two_routes_6, g0, g1, outD]
end
/-! ### route_lag -/
/-- what it tells of beats -/
def lagD (mx mn : Int) : D := .tup [.int mx, .int (mx - mn + 1)]
def beats (ps : List Pt) : List Int := ps.map (·.2)
theorem beats_ne {ps : List Pt} (h : ps ≠ []) : beats ps ≠ [] := by simpa [beats] using h
theorem lag_ok {ps : List Pt} (h : ps ≠ []) (hl : ps.length ≤ 1000) {mx mn : Int} (h1 : bMaxL [.lst (intsD (beats ps))] = some (.sh (.int mx))) (h2 : bMinL [.lst (intsD (beats ps))] = some (.sh (.int mn))) (om : List Cell) : F_route_lag [.lst (ps.map pd)] om = .ok (.sh (lagD mx mn)) om := by
  have cm := comp_eval (it := iAny (eVar 0)) (g := gNm 2) (e := eOp oIx (eVar 2) (eInt 1)) (vs := [2]) (st := ⟨[some (.sh (.lst (ps.map pd))), none, none], om⟩) pd (fun p : Pt => .int p.2) ps (by simp) (by simp) (by omega)
    (fun p _ => ⟨⟨[some (.sh (.lst (ps.map pd))), none, some (.sh (pd p))], om⟩, .sh (.int p.2), ⟨[some (.sh (.lst (ps.map pd))), none, some (.sh (pd p))], om⟩, rfl, by simp [pd], rfl, rfl, rfl⟩) (by simp)
  have cm : route_lag_1_c0 _ = _ := cm
  have e : ps.map (fun p : Pt => D.int p.2) = intsD (beats ps) := by simp [beats, intsD]
  rw [e] at cm
  have hne : (ps.map pd).isEmpty = false := by
    cases ps with
    | nil => exact absurd rfl h
    | cons _ _ => rfl
  obtain ⟨L, hL⟩ : ∃ L, L = ps.map pd := ⟨_, rfl⟩
  obtain ⟨M, hM⟩ : ∃ L, L = intsD (beats ps) := ⟨_, rfl⟩
  rw [← hL] at cm hne ⊢
  rw [← hM] at cm h1 h2
  rw [route_lag_eq]
  simp [route_lag_0, route_lag_1, route_lag_2, cm, hne, h1, h2, lagD]
theorem lag_nil (om : List Cell) : F_route_lag [.lst []] om = .ex (bad "size") om := by
  rw [route_lag_eq]
  simp [route_lag_0, route_lag_0t]
theorem two_ex {a b : List Int} {e : Xc} (ha : a.length ≤ 1000) (hb : b.length ≤ 1000) (h : latesErr [a, b] 0 = some e) (om : List Cell) : F_two_routes [.lst (intsD a), .lst (intsD b)] om = .ex e om := by
  have c := check2 false false a b ha hb om
  rw [h] at c
  simp only [sq_l] at c
  obtain ⟨A, hA⟩ : ∃ A, A = intsD a := ⟨_, rfl⟩
  obtain ⟨B, hB⟩ : ∃ B, B = intsD b := ⟨_, rfl⟩
  rw [← hA, ← hB] at c ⊢
  rw [two_routes_eq]
  simp [two_routes_0, c]
theorem two_size {a b : List Int} (ha : a.length ≤ 1000) (hb : b.length ≤ 1000) (h : latesErr [a, b] 0 = none) (h2 : a.length ≠ 2) (om : List Cell) : F_two_routes [.lst (intsD a), .lst (intsD b)] om = .ex (bad "size") om := by
  have c := check2 false false a b ha hb om
  rw [h] at c
  simp only [sq_l] at c
  have lA : (intsD a).length = a.length := by simp
  obtain ⟨A, hA⟩ : ∃ A, A = intsD a := ⟨_, rfl⟩
  obtain ⟨B, hB⟩ : ∃ B, B = intsD b := ⟨_, rfl⟩
  rw [← hA] at lA
  rw [← hA, ← hB] at c ⊢
  rw [two_routes_eq]
  simp [two_routes_0, two_routes_1, two_routes_1t, c, lA, show ¬ (a.length : Int) = 2 by omega]
end Mini.K28

set_option linter.all false
set_option maxRecDepth 100000
/-! printed by mkL.py: pieces of M_k28.lean, then L_k28d.body -/
namespace Mini.K28
open Mini Mini.LibT Mini.LibR PySem
open Mini.Lib (rangeD_succ perm_out for_all for_inv comp_filter comp_map)
def law_e_due_0_c0 : EvE := (eComp (iRange1 (aCons (eInt 2) aNil)) (gNm 3) (tBl (eOp oEq (eOp oIx (eVar 0) (eVar 3)) (eOp oIx (eVar 1) (eVar 3)))) (eVar 3) [3])
def law_e_due_0 : EvS := (sSet 2 law_e_due_0_c0)
def law_e_due_1t_c0 : EvE := (eComp (iAny (eVar 2)) (gNm 3) tYes (eTup (aCons (eOp oIx (eVar 0) (eVar 3)) (aCons (eVar 3) aNil))) [3])
def law_e_due_1t : EvS := (sRet (eLst (aCons (eRevT (eB bMinL (aCons law_e_due_1t_c0 aNil))) aNil)))
def law_e_due_1 : EvS := (sIf (tTru (eVar 2)) law_e_due_1t sPass)
def law_e_due_2b_0 : EvS := (sPar [5, 6, 7] [(eOp oSub (eInt 1) (eVar 3)), (eInt 0), (eLst aNil)])
def law_e_due_2b_1b_0 : EvS := (sApp 7 (eTup (aCons (eVar 3) (aCons (eOp oAdd (eVar 6) (eOp oIx (eVar 0) (eVar 3))) aNil))))
def law_e_due_2b_1b_1 : EvS := (sSet 8 (eOp oSub (eOp oAdd (eVar 6) (eOp oIx (eVar 0) (eVar 3))) (eOp oIx (eVar 1) (eVar 3))))
def law_e_due_2b_1b_2t : EvS := (sRet (eB bSort (aCons (eVar 7) aNil)))
def law_e_due_2b_1b_2 : EvS := (sIf (tBl (eOp oEq (eVar 8) (eInt 0))) law_e_due_2b_1b_2t sPass)
def law_e_due_2b_1b_3 : EvS := (sApp 7 (eTup (aCons (eVar 5) (aCons (eOp oAdd (eVar 8) (eOp oIx (eVar 1) (eVar 5))) aNil))))
def law_e_due_2b_1b_4 : EvS := (sSet 6 (eOp oSub (eOp oAdd (eVar 8) (eOp oIx (eVar 1) (eVar 5))) (eOp oIx (eVar 0) (eVar 5))))
def law_e_due_2b_1b_5 : EvS := (sIf (tBl (eOp oGt (eB bAbs (aCons (eVar 6) aNil)) (eInt 130))) sBreak sPass)
def law_e_due_2b_1b : EvS := (sSeq law_e_due_2b_1b_0 (sSeq law_e_due_2b_1b_1 (sSeq law_e_due_2b_1b_2 (sSeq law_e_due_2b_1b_3 (sSeq law_e_due_2b_1b_4 law_e_due_2b_1b_5)))))
def law_e_due_2b_1 : EvS := (sFor (iRange1 (aCons (eInt 130) aNil)) (gNm 4) law_e_due_2b_1b)
def law_e_due_2b : EvS := (sSeq law_e_due_2b_0 law_e_due_2b_1)
def law_e_due_2 : EvS := (sFor (iRange1 (aCons (eInt 2) aNil)) (gNm 3) law_e_due_2b)
def law_e_due_3 : EvS := (sRet (eC .non))
theorem law_e_due_eq : F_law_e_due = runDef 9 (sSeq law_e_due_0 (sSeq law_e_due_1 (sSeq law_e_due_2 law_e_due_3))) := rfl
/-! ### the law's own path -/
abbrev de (a0 a1 a2 a3 a4 a5 a6 a7 a8 : Option Vl) : List (Option Vl) := [a0, a1, a2, a3, a4, a5, a6, a7, a8]
/-- the looks of the first k turns -/
def preL (i j ai si bj st : Int) : Nat → List Pt
  | 0 => []
  | k + 1 => preL i j ai si bj st k ++ [(i, (k : Int) * st + ai), (j, (k : Int) * st + si + bj)]
theorem preL_len (i j ai si bj st : Int) : ∀ k, (preL i j ai si bj st k).length = 2 * k
  | 0 => rfl
  | k + 1 => by rw [preL, List.length_append, preL_len i j ai si bj st k]; rfl
theorem preL_perm (i j ai aj si bj st : Int) (h : st = si - (aj - bj)) : ∀ k : Nat, (preL i j ai si bj st k ++ [(i, (k : Int) * st + ai)]).Perm (raw i j ai aj st k)
  | 0 => by simp [preL, raw]
  | k + 1 => by
    have ih := preL_perm i j ai aj si bj st h k
    have e1 : raw i j ai aj st (k + 1) = (((List.range (k + 1)).map fun k : Nat => (i, ai + (0 + (k : Int)) * st)) ++ [(i, ((k + 1 : Nat) : Int) * st + ai)]) ++ (((List.range k).map fun k : Nat => (j, aj + (1 + (k : Int)) * st)) ++ [(j, (k : Int) * st + si + bj)]) := by
      unfold raw
      rw [List.range_succ (n := k + 1), List.range_succ (n := k), List.map_append, List.map_append, List.map_append]
      simp only [List.map_cons, List.map_nil]
      congr 3
      · rw [Int.zero_add, Int.add_comm]
      · rw [Int.add_mul, Int.one_mul]
        first
          | omega
          | (simp only [List.cons.injEq, Prod.mk.injEq, and_true, true_and]; omega)
    rw [e1, preL]
    rw [List.perm_iff_count] at ih ⊢
    intro p
    have := ih p
    unfold raw at this
    simp only [List.count_append, List.count_cons, List.count_nil] at this ⊢
    omega
section
variable {A B : List D} {Z : Option Vl} {i j ai aj bi bj : Int} (iA : oIx (.lst A) (.int i) = some (.sh (.int ai))) (jA : oIx (.lst A) (.int j) = some (.sh (.int aj))) (iB : oIx (.lst B) (.int i) = some (.sh (.int bi))) (jB : oIx (.lst B) (.int j) = some (.sh (.int bj))) (om : List Cell)
include iA jA iB jB
/-- one turn that goes on -/
theorem turn_on (d4 d8 : Option Vl) (c x : Int) (L : List D) (hL : L.length < 99998) (h : c + ai - bi ≠ 0) (hb : ¬ 130 < (c + ai - bi + bj - aj).natAbs) : gNm 4 (.int x) ⟨de (some (.sh (.lst A))) (some (.sh (.lst B))) Z (some (.sh (.int i))) d4 (some (.sh (.int j))) (some (.sh (.int c))) (some (.ow L)) d8, om⟩ = some ⟨de (some (.sh (.lst A))) (some (.sh (.lst B))) Z (some (.sh (.int i))) (some (.sh (.int x))) (some (.sh (.int j))) (some (.sh (.int c))) (some (.ow L)) d8, om⟩ ∧
    law_e_due_2b_1b ⟨de (some (.sh (.lst A))) (some (.sh (.lst B))) Z (some (.sh (.int i))) (some (.sh (.int x))) (some (.sh (.int j))) (some (.sh (.int c))) (some (.ow L)) d8, om⟩ = .nx ⟨de (some (.sh (.lst A))) (some (.sh (.lst B))) Z (some (.sh (.int i))) (some (.sh (.int x))) (some (.sh (.int j))) (some (.sh (.int (c + ai - bi + bj - aj)))) (some (.ow (L ++ [pd (i, c + ai), pd (j, c + ai - bi + bj)]))) (some (.sh (.int (c + ai - bi)))), om⟩ := by
  refine ⟨rfl, ?_⟩
  have hb : ¬ (130 : Int) < ((c + ai - bi + bj - aj).natAbs : Int) := by omega
  simp [law_e_due_2b_1b, law_e_due_2b_1b_0, law_e_due_2b_1b_1, law_e_due_2b_1b_2, law_e_due_2b_1b_3, law_e_due_2b_1b_4, law_e_due_2b_1b_5, iA, jA, iB, jB, h, hb, pd, show L.length < 100000 by omega, show L.length + 1 < 100000 by omega]
theorem turn_break (d4 d8 : Option Vl) (c x : Int) (L : List D) (hL : L.length < 99998) (h : c + ai - bi ≠ 0) (hb : 130 < (c + ai - bi + bj - aj).natAbs) : 
    law_e_due_2b_1b ⟨de (some (.sh (.lst A))) (some (.sh (.lst B))) Z (some (.sh (.int i))) (some (.sh (.int x))) (some (.sh (.int j))) (some (.sh (.int c))) (some (.ow L)) d8, om⟩ = .bk ⟨de (some (.sh (.lst A))) (some (.sh (.lst B))) Z (some (.sh (.int i))) (some (.sh (.int x))) (some (.sh (.int j))) (some (.sh (.int (c + ai - bi + bj - aj)))) (some (.ow (L ++ [pd (i, c + ai), pd (j, c + ai - bi + bj)]))) (some (.sh (.int (c + ai - bi)))), om⟩ := by
  have hb : (130 : Int) < ((c + ai - bi + bj - aj).natAbs : Int) := by omega
  simp [law_e_due_2b_1b, law_e_due_2b_1b_0, law_e_due_2b_1b_1, law_e_due_2b_1b_2, law_e_due_2b_1b_3, law_e_due_2b_1b_4, law_e_due_2b_1b_5, iA, jA, iB, jB, h, hb, pd, show L.length < 100000 by omega, show L.length + 1 < 100000 by omega]
theorem turn_ret (d8 : Option Vl) (c x : Int) (ps : List Pt) (hL : ps.length < 900) (h : c + ai - bi = 0) : ∃ s', 
    law_e_due_2b_1b ⟨de (some (.sh (.lst A))) (some (.sh (.lst B))) Z (some (.sh (.int i))) (some (.sh (.int x))) (some (.sh (.int j))) (some (.sh (.int c))) (some (.ow (ps.map pd))) d8, om⟩ = .rt (.ow ((psort (ps ++ [(i, c + ai)])).map pd)) s' ∧ s'.om = om := by
  have bs := bsort_pd (ps ++ [(i, c + ai)]) (by simp; omega)
  have e : (ps ++ [(i, c + ai)]).map pd = ps.map pd ++ [pd (i, c + ai)] := by simp
  rw [e] at bs
  have l : (ps.map pd).length < 100000 := by rw [List.length_map]; omega
  obtain ⟨L, hL⟩ : ∃ L, L = ps.map pd := ⟨_, rfl⟩
  rw [← hL] at bs l ⊢
  refine ⟨⟨de (some (.sh (.lst A))) (some (.sh (.lst B))) Z (some (.sh (.int i))) (some (.sh (.int x))) (some (.sh (.int j))) (some (.sh (.int c))) (some (.sh (.lst (L ++ [pd (i, c + ai)])))) (some (.sh (.int 0))), om⟩, ?_, rfl⟩
  simp only [pd] at bs ⊢
  simp [law_e_due_2b_1b, law_e_due_2b_1b_0, law_e_due_2b_1b_1, law_e_due_2b_1b_2, law_e_due_2b_1b_2t, iA, jA, iB, jB, h, bs, l]
theorem in_found (t : Nat) (ht : times (ai - bi) (aj - bj) = some t) (hsi : (ai - bi).natAbs ≤ 60) : ∀ (n k : Nat) (lo : Int) (d4 d8 : Option Vl), k ≤ t → t - k < n →
    ∃ s', forGo (gNm 4) law_e_due_2b_1b (rangeD lo n) ⟨de (some (.sh (.lst A))) (some (.sh (.lst B))) Z (some (.sh (.int i))) d4 (some (.sh (.int j))) (some (.sh (.int ((k : Int) * (ai - bi - (aj - bj)))))) (some (.ow ((preL i j ai (ai - bi) bj (ai - bi - (aj - bj)) k).map pd))) d8, om⟩ = .rt (.ow ((psort (raw i j ai aj (ai - bi - (aj - bj)) t)).map pd)) s' ∧ s'.om = om := by
  obtain ⟨h0, h1, h2⟩ := times_some.mp ht
  have tle : t ≤ 60 := by
    have q1 : t ∣ (ai - bi).natAbs := by
      rw [show (ai - bi).natAbs = (-(ai - bi)).natAbs by omega, ← h2, Int.natAbs_mul, Int.natAbs_natCast]
      exact Nat.dvd_mul_right _ _
    have q2 : 0 < (ai - bi).natAbs := by
      rw [show (ai - bi).natAbs = (-(ai - bi)).natAbs by omega, ← h2, Int.natAbs_mul, Int.natAbs_natCast]
      exact Nat.mul_pos (by omega) (by omega)
    have := Nat.le_of_dvd q2 q1
    omega
  obtain ⟨st, hst⟩ : ∃ st, st = ai - bi - (aj - bj) := ⟨_, rfl⟩
  rw [← hst] at h0 h2 ⊢
  intro n
  induction n with
  | zero => intro k lo d4 d8 _ h; omega
  | succ n ih =>
    intro k lo d4 d8 hk hn
    rw [rangeD_succ, x_forCons]
    have lp := preL_len i j ai (ai - bi) bj st k
    have g : gNm 4 (.int lo) ⟨de (some (.sh (.lst A))) (some (.sh (.lst B))) Z (some (.sh (.int i))) d4 (some (.sh (.int j))) (some (.sh (.int ((k : Int) * st)))) (some (.ow ((preL i j ai (ai - bi) bj st k).map pd))) d8, om⟩ = some ⟨de (some (.sh (.lst A))) (some (.sh (.lst B))) Z (some (.sh (.int i))) (some (.sh (.int lo))) (some (.sh (.int j))) (some (.sh (.int ((k : Int) * st)))) (some (.ow ((preL i j ai (ai - bi) bj st k).map pd))) d8, om⟩ := rfl
    simp only [g]
    by_cases c : k = t
    · subst c
      obtain ⟨s', e, i'⟩ := turn_ret (Z := Z) iA jA iB jB om d8 ((k : Int) * st) lo (preL i j ai (ai - bi) bj st k) (by omega) (by omega)
      refine ⟨s', ?_, i'⟩
      rw [e, psort_perm (preL_perm i j ai aj (ai - bi) bj st hst k)]
    · have nz : (k : Int) * st + ai - bi ≠ 0 := by
        intro z
        have : ((t : Int) - k) * st = 0 := by rw [Int.sub_mul]; omega
        rcases Int.mul_eq_zero.mp this with q | q
        · omega
        · exact h0 q
      have ec : (k : Int) * st + ai - bi + bj - aj = ((k + 1 : Nat) : Int) * st := by
        rw [Int.natCast_add, Int.add_mul, Int.natCast_one, Int.one_mul]; omega
      have bd : ((((k + 1 : Nat) : Int)) * st).natAbs ≤ 60 := by
        rw [Int.natAbs_mul, Int.natAbs_natCast]
        have : t * st.natAbs = (ai - bi).natAbs := by
          have := congrArg Int.natAbs h2
          rw [Int.natAbs_mul, Int.natAbs_natCast] at this
          omega
        have := Nat.mul_le_mul_right st.natAbs (show k + 1 ≤ t by omega)
        omega
      have on := (turn_on (Z := Z) iA jA iB jB om d4 d8 ((k : Int) * st) lo ((preL i j ai (ai - bi) bj st k).map pd) (by rw [List.length_map]; omega) nz (by rw [ec]; omega)).2
      obtain ⟨s', e, i'⟩ := ih (k + 1) (lo + 1) (some (.sh (.int lo))) (some (.sh (.int ((k : Int) * st + ai - bi)))) (by omega) (by omega)
      refine ⟨s', ?_, i'⟩
      rw [ec] at on
      have ep : (preL i j ai (ai - bi) bj st (k + 1)).map pd = (preL i j ai (ai - bi) bj st k).map pd ++ [pd (i, (k : Int) * st + ai), pd (j, (k : Int) * st + ai - bi + bj)] := by
        rw [preL, List.map_append, List.map_cons, List.map_cons, List.map_nil, show (k : Int) * st + (ai - bi) + bj = (k : Int) * st + ai - bi + bj by omega]
      rw [← ep] at on
      simp only [on]
      exact e
theorem in_none (ht : times (ai - bi) (aj - bj) = none) (hs : ai - bi ≠ 0) : ∀ (n k : Nat) (lo : Int) (L : List D) (d4 d8 : Option Vl), L.length + 2 * n < 99998 →
    ∃ d4' d6' L' d8', forGo (gNm 4) law_e_due_2b_1b (rangeD lo n) ⟨de (some (.sh (.lst A))) (some (.sh (.lst B))) Z (some (.sh (.int i))) d4 (some (.sh (.int j))) (some (.sh (.int ((k : Int) * (ai - bi - (aj - bj)))))) (some (.ow L)) d8, om⟩ = .nx ⟨de (some (.sh (.lst A))) (some (.sh (.lst B))) Z (some (.sh (.int i))) d4' (some (.sh (.int j))) (some (.sh d6')) (some (.ow L')) d8', om⟩ := by
  have nz : ∀ k : Nat, (k : Int) * (ai - bi - (aj - bj)) + ai - bi ≠ 0 := by
    intro k z
    have e : (k : Int) * (ai - bi - (aj - bj)) = -(ai - bi) := by omega
    have : times (ai - bi) (aj - bj) = some k := by
      refine times_some.mpr ⟨fun q => ?_, ?_, e⟩
      · rw [q, Int.mul_zero] at e; omega
      · rcases Nat.eq_zero_or_pos k with q | q
        · subst q; simp at e; omega
        · exact q
    rw [ht] at this
    cases this
  intro n
  induction n with
  | zero => intro k lo L d4 d8 _; exact ⟨d4, _, L, d8, rfl⟩
  | succ n ih =>
    intro k lo L d4 d8 hl
    rw [rangeD_succ, x_forCons]
    have g : gNm 4 (.int lo) ⟨de (some (.sh (.lst A))) (some (.sh (.lst B))) Z (some (.sh (.int i))) d4 (some (.sh (.int j))) (some (.sh (.int ((k : Int) * (ai - bi - (aj - bj)))))) (some (.ow L)) d8, om⟩ = some ⟨de (some (.sh (.lst A))) (some (.sh (.lst B))) Z (some (.sh (.int i))) (some (.sh (.int lo))) (some (.sh (.int j))) (some (.sh (.int ((k : Int) * (ai - bi - (aj - bj)))))) (some (.ow L)) d8, om⟩ := rfl
    simp only [g]
    have ec : (k : Int) * (ai - bi - (aj - bj)) + ai - bi + bj - aj = ((k + 1 : Nat) : Int) * (ai - bi - (aj - bj)) := by
      rw [Int.natCast_add, Int.add_mul, Int.natCast_one, Int.one_mul]; omega
    by_cases c : 130 < ((k : Int) * (ai - bi - (aj - bj)) + ai - bi + bj - aj).natAbs
    · have b := turn_break (Z := Z) iA jA iB jB om d4 d8 ((k : Int) * (ai - bi - (aj - bj))) lo L (by omega) (nz k) c
      simp only [b]
      exact ⟨_, _, _, _, rfl⟩
    · have on := (turn_on (Z := Z) iA jA iB jB om d4 d8 ((k : Int) * (ai - bi - (aj - bj))) lo L (by omega) (nz k) c).2
      rw [ec] at on
      obtain ⟨d4', d6', L', d8', e⟩ := ih (k + 1) (lo + 1) (L ++ [pd (i, (k : Int) * (ai - bi - (aj - bj)) + ai), pd (j, (k : Int) * (ai - bi - (aj - bj)) + ai - bi + bj)]) (some (.sh (.int lo))) (some (.sh (.int ((k : Int) * (ai - bi - (aj - bj)) + ai - bi)))) (by simp; omega)
      refine ⟨d4', d6', L', d8', ?_⟩
      simp only [on]
      exact e
end
section
variable {a0 a1 b0 b1 : Int} (ha0 : 0 ≤ a0 ∧ a0 ≤ 60) (ha1 : 0 ≤ a1 ∧ a1 ≤ 60) (hb0 : 0 ≤ b0 ∧ b0 ≤ 60) (hb1 : 0 ≤ b1 ∧ b1 ≤ 60) (om : List Cell)
include ha0 ha1 hb0 hb1
theorem due_ok : F_law_e_due [.lst (intsD [a0, a1]), .lst (intsD [b0, b1])] om = .ok (outD (due a0 a1 b0 b1)) om := by
  obtain ⟨A, hA⟩ : ∃ A, A = intsD [a0, a1] := ⟨_, rfl⟩
  obtain ⟨B, hB⟩ : ∃ A, A = intsD [b0, b1] := ⟨_, rfl⟩
  rw [← hA, ← hB]
  have iA0 : oIx (.lst A) (.int 0) = some (.sh (.int a0)) := by rw [hA]; simp
  have iA1 : oIx (.lst A) (.int 1) = some (.sh (.int a1)) := by rw [hA]; simp
  have iB0 : oIx (.lst B) (.int 0) = some (.sh (.int b0)) := by rw [hB]; simp
  have iB1 : oIx (.lst B) (.int 1) = some (.sh (.int b1)) := by rw [hB]; simp
  have r2 : rangeD 0 2 = [D.int 0, D.int 1] := by simp [rangeD, List.range_succ]
  obtain ⟨Z, hZ⟩ : ∃ Z, Z = (evens (a0 == b0) (a1 == b1)).map fun k : Nat => D.int (k : Int) := ⟨_, rfl⟩
  obtain ⟨E, hE⟩ : ∃ E, E = (evens (a0 == b0) (a1 == b1)).map fun k : Nat => pd (late2 a0 a1 k, (k : Int)) := ⟨_, rfl⟩
  have t0 : law_e_due_0 ⟨de (some (.sh (.lst A))) (some (.sh (.lst B))) none none none none none none none, om⟩ = .nx ⟨de (some (.sh (.lst A))) (some (.sh (.lst B))) (some (.ow Z)) none none none none none none, om⟩ := by
    cases c0 : (a0 == b0) <;> cases c1 : (a1 == b1) <;> rw [c0] at hZ <;> rw [c1] at hZ <;> simp only [evens_tt, evens_tf, evens_ft, evens_ff, List.map_cons, List.map_nil] at hZ <;> simp [hZ, law_e_due_0, law_e_due_0_c0, x_compCons, r2, iA0, iA1, iB0, iB1, c0, c1]
  have z : ∀ v, (sSeq law_e_due_1 (sSeq law_e_due_2 law_e_due_3) ⟨de (some (.sh (.lst A))) (some (.sh (.lst B))) (some (.ow Z)) none none none none none none, om⟩).toF = v → F_law_e_due [.lst A, .lst B] om = v := by
    rintro v rfl
    have : F_law_e_due [.lst A, .lst B] om = ((sSeq law_e_due_0 (sSeq law_e_due_1 (sSeq law_e_due_2 law_e_due_3))) ⟨de (some (.sh (.lst A))) (some (.sh (.lst B))) none none none none none none none, om⟩).toF := rfl
    rw [this]
    simp only [x_seq, t0, o_nx]
  refine z _ ?_
  by_cases c : a0 = b0 ∨ a1 = b1
  · obtain ⟨x, i, hf, hm⟩ := min_evens c
    rw [← hE] at hm
    have hd : due a0 a1 b0 b1 = some [(i, x)] := by rw [← hf]; exact if_pos c
    have ce : law_e_due_1t_c0 ⟨de (some (.sh (.lst A))) (some (.sh (.lst B))) (some (.sh (.lst Z))) none none none none none none, om⟩ = .ok (.ow E) ⟨de (some (.sh (.lst A))) (some (.sh (.lst B))) (some (.sh (.lst Z))) none none none none none none, om⟩ := by
      cases c0 : (a0 == b0) <;> cases c1 : (a1 == b1) <;> rw [c0] at hZ hE <;> rw [c1] at hZ hE <;> simp only [evens_tt, evens_tf, evens_ft, evens_ff, List.map_cons, List.map_nil] at hZ hE <;> simp [hZ, hE, law_e_due_1t_c0, x_compCons, iA0, iA1, pd, late2]
    have hne : Z.isEmpty = false := by
      rcases c with c | c
      · rw [hZ, beq_iff_eq.mpr c]; cases (a1 == b1) <;> rfl
      · rw [hZ, beq_iff_eq.mpr c]; cases (a0 == b0) <;> rfl
    rw [hd]
    simp [law_e_due_1, law_e_due_1t, hne, ce, hm, pd, outD]
  · have hZ0 : Z = [] := by
      rw [not_or] at c
      rw [hZ, beq_eq_false_iff_ne.mpr c.1, beq_eq_false_iff_ne.mpr c.2, evens_ff]
      rfl
    subst hZ0
    have hd : due a0 a1 b0 b1 = match zig 0 1 a0 a1 (a0 - b0) (a1 - b1) with
      | some l => some l
      | none => zig 1 0 a1 a0 (a1 - b1) (a0 - b0) := if_neg c
    rw [not_or] at c
    have t1 : law_e_due_1 ⟨de (some (.sh (.lst A))) (some (.sh (.lst B))) (some (.ow [])) none none none none none none, om⟩ = .nx ⟨de (some (.sh (.lst A))) (some (.sh (.lst B))) (some (.sh (.lst []))) none none none none none none, om⟩ := by simp [law_e_due_1]
    have e2 : law_e_due_2 ⟨de (some (.sh (.lst A))) (some (.sh (.lst B))) (some (.sh (.lst []))) none none none none none none, om⟩ = forGo (gNm 3) law_e_due_2b [.int 0, .int 1] ⟨de (some (.sh (.lst A))) (some (.sh (.lst B))) (some (.sh (.lst []))) none none none none none none, om⟩ := by simp [law_e_due_2, r2]
    -- one side
    have side : ∀ (i : Int) (d4 d5 d6 d7 d8 : Option Vl), law_e_due_2b_0 ⟨de (some (.sh (.lst A))) (some (.sh (.lst B))) (some (.sh (.lst []))) (some (.sh (.int i))) d4 d5 d6 d7 d8, om⟩ = .nx ⟨de (some (.sh (.lst A))) (some (.sh (.lst B))) (some (.sh (.lst []))) (some (.sh (.int i))) d4 (some (.sh (.int (1 - i)))) (some (.sh (.int 0))) (some (.ow [])) d8, om⟩ := by
      intro i d4 d5 d6 d7 d8
      simp [law_e_due_2b_0]
    have loop : ∀ st : St, law_e_due_2b_1 st = forGo (gNm 4) law_e_due_2b_1b (rangeD 0 130) st := by intro st; simp [law_e_due_2b_1]
    have g3 : ∀ (i : Int) (d3 d4 d5 d6 d7 d8 : Option Vl), gNm 3 (.int i) ⟨de (some (.sh (.lst A))) (some (.sh (.lst B))) (some (.sh (.lst []))) d3 d4 d5 d6 d7 d8, om⟩ = some ⟨de (some (.sh (.lst A))) (some (.sh (.lst B))) (some (.sh (.lst []))) (some (.sh (.int i))) d4 d5 d6 d7 d8, om⟩ := fun _ _ _ _ _ _ _ => rfl
    rw [hd]
    simp only [x_seq, t1, o_nx, e2]
    rw [x_forCons]
    simp only [g3, law_e_due_2b, x_seq, side, o_nx, loop]
    cases h0 : times (a0 - b0) (a1 - b1) with
    | some t =>
      have hz : zig 0 1 a0 a1 (a0 - b0) (a1 - b1) = some (psort (raw 0 1 a0 a1 (a0 - b0 - (a1 - b1)) t)) := by simp only [zig, h0, Option.map_some]
      have tl := times_some.mp h0
      obtain ⟨s', e, hs⟩ := in_found (Z := some (.sh (.lst []))) iA0 iA1 iB0 iB1 om t h0 (by omega) 130 0 0 none none (Nat.zero_le _) (by
        have q1 : t ∣ (a0 - b0).natAbs := by
          rw [show (a0 - b0).natAbs = (-(a0 - b0)).natAbs by omega, ← tl.2.2, Int.natAbs_mul, Int.natAbs_natCast]
          exact Nat.dvd_mul_right _ _
        have := Nat.le_of_dvd (by omega) q1
        omega)
      simp only [Int.natCast_zero, Int.zero_mul, preL, List.map_nil] at e
      simp only [show (1 : Int) - 0 = 1 by decide, e, o_rt, toF_rt, hs, hz, outD]
    | none =>
      have hz : zig 0 1 a0 a1 (a0 - b0) (a1 - b1) = none := by simp only [zig, h0, Option.map_none]
      obtain ⟨d4', d6', L', d8', e⟩ := in_none (Z := some (.sh (.lst []))) iA0 iA1 iB0 iB1 om h0 (by omega) 130 0 0 [] none none (by simp)
      simp only [Int.natCast_zero, Int.zero_mul] at e
      simp only [show (1 : Int) - 0 = 1 by decide, e, hz]
      rw [x_forCons]
      simp only [g3, law_e_due_2b, x_seq, side, o_nx, loop]
      cases h1 : times (a1 - b1) (a0 - b0) with
      | some t =>
        have hz : zig 1 0 a1 a0 (a1 - b1) (a0 - b0) = some (psort (raw 1 0 a1 a0 (a1 - b1 - (a0 - b0)) t)) := by simp only [zig, h1, Option.map_some]
        have tl := times_some.mp h1
        obtain ⟨s', e, hs⟩ := in_found (Z := some (.sh (.lst []))) iA1 iA0 iB1 iB0 om t h1 (by omega) 130 0 0 d4' d8' (Nat.zero_le _) (by
          have q1 : t ∣ (a1 - b1).natAbs := by
            rw [show (a1 - b1).natAbs = (-(a1 - b1)).natAbs by omega, ← tl.2.2, Int.natAbs_mul, Int.natAbs_natCast]
            exact Nat.dvd_mul_right _ _
          have := Nat.le_of_dvd (by omega) q1
          omega)
        simp only [Int.natCast_zero, Int.zero_mul, preL, List.map_nil] at e
        simp only [show (1 : Int) - 1 = 0 by decide, e, o_rt, toF_rt, hs, hz, outD]
      | none =>
        have hz : zig 1 0 a1 a0 (a1 - b1) (a0 - b0) = none := by simp only [zig, h1, Option.map_none]
        obtain ⟨e4', e6', M', e8', e⟩ := in_none (Z := some (.sh (.lst []))) iA1 iA0 iB1 iB0 om h1 (by omega) 130 0 0 [] d4' d8' (by simp)
        simp only [Int.natCast_zero, Int.zero_mul] at e
        simp only [show (1 : Int) - 1 = 0 by decide, e, hz, x_forNil, o_nx]
        simp [law_e_due_3, outD]
end
end Mini.K28

set_option linter.all false
set_option maxRecDepth 100000
/-! printed by mkL.py: pieces of M_k28.lean, then L_k28e.body -/
namespace Mini.K28
open Mini Mini.LibT Mini.LibR PySem
open Mini.Lib (rangeD_succ perm_out for_all for_inv comp_filter comp_map)
def law_e_lines_0 : EvS := (sSet 4 (eLst aNil))
def law_e_lines_1bbt : EvS := (sApp 4 (eTup (aCons (eTup (aCons (eInt 0) (aCons (eOp oSub (eVar 6) (eOp oIx (eVar 0) (eVar 5))) aNil))) (aCons (eTup (aCons (eInt 1) (aCons (eOp oSub (eVar 6) (eOp oIx (eVar 1) (eVar 5))) aNil))) aNil))))
def law_e_lines_1bb : EvS := (sIf (tBl (eOp oNe (eTup (aCons (eVar 5) (aCons (eVar 6) aNil))) (eVar 3))) law_e_lines_1bbt sPass)
def law_e_lines_1b : EvS := (sFor (iRange2 (aCons (eOp1 oNeg (eVar 2)) (aCons (eOp oAdd (eVar 2) (eInt 1)) aNil))) (gNm 6) law_e_lines_1bb)
def law_e_lines_1 : EvS := (sFor (iRange1 (aCons (eInt 2) aNil)) (gNm 5) law_e_lines_1b)
def law_e_lines_2 : EvS := (sRet (eOwn 4))
theorem law_e_lines_eq : F_law_e_lines = runDef 7 (sSeq law_e_lines_0 (sSeq law_e_lines_1 law_e_lines_2)) := rfl
def law_e_joins : EvS := (sRet (eTIn false (eTup (aCons (eInt 1) (aCons (eInt 0) aNil))) (eCall F_law_e_reach (aCons (eVar 0) (aCons (eTup (aCons (eInt 0) (aCons (eInt 0) aNil))) aNil)))))
theorem law_e_joins_eq : F_law_e_joins = runDef 1 law_e_joins := rfl
/-! ### webs in the evaluator -/
def kkP (p : Pt) : List Ky := [.inl p.1, .inl p.2]
theorem pd_inj {a b : Pt} (h : pd a = pd b) : a = b := by
  have h1 : a.1 = b.1 := by injection h with h; injection h with h1 h2; injection h1
  have h2 : a.2 = b.2 := by injection h with h; injection h with h1 h2; injection h2 with h2; injection h2
  exact Prod.ext h1 h2
theorem thP : Things pd kkP := ⟨fun a => rfl, fun a b h => by
  have h1 : a.1 = b.1 := by injection h with h1 h2; injection h1
  have h2 : a.2 = b.2 := by injection h with h1 h2; injection h2 with h2; injection h2
  exact Prod.ext h1 h2⟩
/-- cells that are neither tables nor hold lists -/
def Calm (r : List Cell) : Prop := tabsOf r = [] ∧ r.all Cell.noLst = true
theorem Calm.nil : Calm [] := ⟨rfl, rfl⟩
theorem Calm.app {a b : List Cell} (x : Calm a) (y : Calm b) : Calm (a ++ b) := ⟨by rw [tabs_app, x.1, y.1]; rfl, by rw [List.all_append, x.2, y.2]; rfl⟩
theorem pd_noLst (p : Pt) : (pd p).noLst = true := rfl
theorem pds_noLst : ∀ ps : List Pt, D.noLsts (ps.map pd) = true
  | [] => rfl
  | p :: ps => by rw [List.map_cons, D.noLsts, pd_noLst, pds_noLst ps]; rfl
theorem near_noLst {α : Type} (kk : α → List Ky) : ∀ (nl : List (α × List α)) (b : Nat), (nearK kk b nl).all (fun p => p.2.noLst) = true
  | [], _ => rfl
  | p :: nl, b => by rw [nearK, List.all_cons, near_noLst kk nl]; rfl
theorem om_calm (pre : List Cell) (S : List (Pt × Int)) (nl : List (Pt × List Pt)) : ∃ r, OM pd kkP pre S nl = pre ++ r ∧ Calm r := by
  refine ⟨_, rfl, ?_, ?_⟩
  · rw [tabs_dT, tabs_dT]
    induction nl with
    | nil => rfl
    | cons p nl ih => rw [List.map_cons, nbCell, tabs_lst, ih]
  · rw [List.all_cons, List.all_cons, Bool.and_eq_true, Bool.and_eq_true]
    refine ⟨near_noLst kkP nl _, ?_, ?_⟩
    · show (foundK kkP S).all (fun p => p.2.noLst) = true
      unfold foundK
      rw [List.all_map, List.all_eq_true]
      intro p _
      rfl
    · rw [List.all_map, List.all_eq_true]
      intro p _
      exact pds_noLst p.2
theorem joins_ok (ls : List (Pt × Pt)) (hl : ls.length < 20000) (om : List Cell) : ∃ (t : Bool) (r : List Cell), F_law_e_joins [.lst (ls.map (lineD pd))] om = .ok (.sh (.bl t)) (om ++ r) ∧ Calm r ∧ (t = true ↔ Rch ls (0, 0) (1, 0)) := by
  obtain ⟨F, nl, e2, h2⟩ := reach_ok thP ls (0, 0) hl om
  obtain ⟨r, hr, ht⟩ := om_calm om F nl
  have f := found_some F ((1, 0) : Pt) thP
  have q := om_found (nd := pd) (kk := kkP) om F nl
  refine ⟨decide (((1, 0) : Pt) ∈ ks F), r, ?_, ht, by rw [decide_eq_true_iff]; exact h2 _⟩
  have e2 : F_law_e_reach [.lst (ls.map (lineD pd)), .tup [.int 0, .int 0]] om = _ := e2
  have f : (kvGet (foundK kkP F) [.inl 1, .inl 0]).isSome = _ := f
  obtain ⟨L, hL⟩ : ∃ L, L = ls.map (lineD pd) := ⟨_, rfl⟩
  rw [← hL] at e2 ⊢
  rw [← hr, law_e_joins_eq]
  simp [law_e_joins, e2, q, f]
/-- a look that is left out, or none -/
def leftD (l : Option Pt) : D := match l with
  | none => .non
  | some p => pd p
theorem ne_left (p : Pt) (l : Option Pt) : oNe (pd p) (leftD l) = some (.sh (.bl (decide (some p ≠ l)))) := by
  have f1 : (pd p).fine deep = true := by simp [pd]
  cases l with
  | none =>
    rw [leftD, v_ne f1 (by simp)]
    simp [pd]
  | some q =>
    have f2 : (pd q).fine deep = true := by simp [pd]
    rw [leftD, v_ne f1 f2]
    congr 3
    obtain ⟨p1, p2⟩ := p
    obtain ⟨q1, q2⟩ := q
    simp only [pd, eq_tt, eqs_cc, eqs_nn, eq_ii, Bool.and_true]
    rw [Bool.eq_iff_iff]
    simp only [Bool.not_eq_true', Bool.and_eq_false_iff, beq_eq_false_iff_ne, decide_eq_true_eq, ne_eq, Option.some.injEq, Prod.mk.injEq]
    by_cases h1 : p1 = q1 <;> simp [h1]
/-- the lines of route i -/
def lnI (a0 a1 b0 b1 : Int) (left : Option Pt) (i lo : Int) (xs : List Nat) : List (Pt × Pt) := (xs.filter fun k : Nat => decide (some (i, lo + (k : Int)) ≠ left)).map fun k : Nat => ((0, lo + (k : Int) - at2 a0 a1 i), (1, lo + (k : Int) - at2 b0 b1 i))
theorem ln_def (a0 a1 b0 b1 : Int) (far : Nat) (left : Option Pt) : ln a0 a1 b0 b1 far left = lnI a0 a1 b0 b1 left 0 (-(far : Int)) (List.range (2 * far + 1)) ++ lnI a0 a1 b0 b1 left 1 (-(far : Int)) (List.range (2 * far + 1)) := by
  unfold ln lnI
  simp only [List.flatMap_cons, List.flatMap_nil, List.append_nil]
theorem lnI_len (a0 a1 b0 b1 : Int) (left : Option Pt) (i lo : Int) (xs : List Nat) : (lnI a0 a1 b0 b1 left i lo xs).length ≤ xs.length := by
  unfold lnI
  rw [List.length_map]
  exact List.length_filter_le _ _
section
variable {a0 a1 b0 b1 : Int} {A B : List D} (iA0 : oIx (.lst A) (.int 0) = some (.sh (.int a0))) (iA1 : oIx (.lst A) (.int 1) = some (.sh (.int a1))) (iB0 : oIx (.lst B) (.int 0) = some (.sh (.int b0))) (iB1 : oIx (.lst B) (.int 1) = some (.sh (.int b1)))
include iA0 iA1 iB0 iB1
abbrev le_ (A B : List D) (far : Int) (l : Option Pt) (a4 a5 a6 : Option Vl) : List (Option Vl) := [some (.sh (.lst A)), some (.sh (.lst B)), some (.sh (.int far)), some (.sh (leftD l)), a4, a5, a6]
theorem lines_in (far : Int) (l : Option Pt) (i : Int) (hi : i = 0 ∨ i = 1) (lo : Int) (om : List Cell) : ∀ (xs : List Nat) (acc : List D) (d6 : Option Vl), acc.length + xs.length ≤ 90000 →
    ∃ d6', forGo (gNm 6) law_e_lines_1bb (xs.map fun k : Nat => D.int (lo + (k : Int))) ⟨le_ A B far l (some (.ow acc)) (some (.sh (.int i))) d6, om⟩ = .nx ⟨le_ A B far l (some (.ow (acc ++ (lnI a0 a1 b0 b1 l i lo xs).map (lineD pd)))) (some (.sh (.int i))) d6', om⟩ := by
  have iA : oIx (.lst A) (.int i) = some (.sh (.int (at2 a0 a1 i))) := by
    rcases hi with rfl | rfl
    · exact iA0
    · exact iA1
  have iB : oIx (.lst B) (.int i) = some (.sh (.int (at2 b0 b1 i))) := by
    rcases hi with rfl | rfl
    · exact iB0
    · exact iB1
  intro xs
  induction xs with
  | nil => intro acc d6 _; exact ⟨d6, by simp [lnI]⟩
  | cons x xs ih =>
    intro acc d6 h
    rw [List.length_cons] at h
    rw [List.map_cons, x_forCons]
    have g : gNm 6 (.int (lo + (x : Int))) ⟨le_ A B far l (some (.ow acc)) (some (.sh (.int i))) d6, om⟩ = some ⟨le_ A B far l (some (.ow acc)) (some (.sh (.int i))) (some (.sh (.int (lo + (x : Int))))), om⟩ := rfl
    simp only [g]
    have ne := ne_left (i, lo + (x : Int)) l
    have ne : oNe (.tup [.int i, .int (lo + (x : Int))]) (leftD l) = _ := ne
    obtain ⟨X, hX⟩ : ∃ X : Int, X = lo + (x : Int) := ⟨_, rfl⟩
    by_cases c : some (i, lo + (x : Int)) = l
    · have e0 : lnI a0 a1 b0 b1 l i lo (x :: xs) = lnI a0 a1 b0 b1 l i lo xs := by
        unfold lnI
        rw [List.filter_cons_of_neg (by simpa using c)]
      rw [decide_eq_false (by simpa using c)] at ne
      rw [← hX] at ne ⊢
      have s : law_e_lines_1bb ⟨le_ A B far l (some (.ow acc)) (some (.sh (.int i))) (some (.sh (.int X))), om⟩ = .nx ⟨le_ A B far l (some (.ow acc)) (some (.sh (.int i))) (some (.sh (.int X))), om⟩ := by simp [law_e_lines_1bb, ne]
      obtain ⟨d6', e⟩ := ih acc (some (.sh (.int X))) (by omega)
      exact ⟨d6', by simp only [s, e, e0]⟩
    · have e0 : lnI a0 a1 b0 b1 l i lo (x :: xs) = ((0, lo + (x : Int) - at2 a0 a1 i), (1, lo + (x : Int) - at2 b0 b1 i)) :: lnI a0 a1 b0 b1 l i lo xs := by
        unfold lnI
        rw [List.filter_cons_of_pos (by simpa using c), List.map_cons]
      rw [decide_eq_true (by simpa using c)] at ne
      rw [e0, List.map_cons]
      rw [← hX] at ne ⊢
      have s : law_e_lines_1bb ⟨le_ A B far l (some (.ow acc)) (some (.sh (.int i))) (some (.sh (.int X))), om⟩ = .nx ⟨le_ A B far l (some (.ow (acc ++ [lineD pd ((0, X - at2 a0 a1 i), (1, X - at2 b0 b1 i))]))) (some (.sh (.int i))) (some (.sh (.int X))), om⟩ := by
        simp [law_e_lines_1bb, law_e_lines_1bbt, ne, iA, iB, lineD, pd, show acc.length < 100000 by omega]
      obtain ⟨d6', e⟩ := ih (acc ++ [lineD pd ((0, X - at2 a0 a1 i), (1, X - at2 b0 b1 i))]) (some (.sh (.int X))) (by simp; omega)
      refine ⟨d6', ?_⟩
      simp only [s, e, List.append_assoc, List.singleton_append]
theorem lines_ok (far : Nat) (hf : far ≤ 100) (l : Option Pt) (om : List Cell) : F_law_e_lines [.lst A, .lst B, .int far, leftD l] om = .ok (.ow ((ln a0 a1 b0 b1 far l).map (lineD pd))) om := by
  have r2 : rangeD 0 2 = [D.int 0, D.int 1] := by simp [rangeD, List.range_succ]
  have inn : ∀ (i : Int) (acc : List D) (d6 : Option Vl), law_e_lines_1b ⟨le_ A B far l (some (.ow acc)) (some (.sh (.int i))) d6, om⟩ = forGo (gNm 6) law_e_lines_1bb ((List.range (2 * far + 1)).map fun k : Nat => D.int (-(far : Int) + (k : Int))) ⟨le_ A B far l (some (.ow acc)) (some (.sh (.int i))) d6, om⟩ := by
    intro i acc d6
    have e1 : ((far : Int) + 1 + (far : Int)).toNat = 2 * far + 1 := by omega
    simp [law_e_lines_1b, rangeD, show (-4000000000000000000 : Int) ≤ -(far : Int) by omega, show -(far : Int) < 4000000000000000000 by omega, show (far : Int) + 1 < 4000000000000000000 by omega, show (-4000000000000000000 : Int) ≤ (far : Int) + 1 by omega, e1]
  obtain ⟨d6, e1⟩ := lines_in (a0 := a0) (a1 := a1) (b0 := b0) (b1 := b1) iA0 iA1 iB0 iB1 far l 0 (.inl rfl) (-(far : Int)) om (List.range (2 * far + 1)) [] none (by simp; omega)
  have ll := lnI_len a0 a1 b0 b1 l 0 (-(far : Int)) (List.range (2 * far + 1))
  rw [List.length_range] at ll
  obtain ⟨d6', e2⟩ := lines_in (a0 := a0) (a1 := a1) (b0 := b0) (b1 := b1) iA0 iA1 iB0 iB1 far l 1 (.inr rfl) (-(far : Int)) om (List.range (2 * far + 1)) ((lnI a0 a1 b0 b1 l 0 (-(far : Int)) (List.range (2 * far + 1))).map (lineD pd)) d6 (by simp; omega)
  rw [← List.map_append, ← ln_def] at e2
  rw [List.nil_append] at e1
  have s1 : law_e_lines_1 ⟨le_ A B far l (some (.ow [])) none none, om⟩ = .nx ⟨le_ A B far l (some (.ow ((ln a0 a1 b0 b1 far l).map (lineD pd)))) (some (.sh (.int 1))) d6', om⟩ := by
    have : law_e_lines_1 ⟨le_ A B far l (some (.ow [])) none none, om⟩ = forGo (gNm 5) law_e_lines_1b [.int 0, .int 1] ⟨le_ A B far l (some (.ow [])) none none, om⟩ := by simp [law_e_lines_1, r2]
    rw [this, x_forCons]
    have g : ∀ (i : Int) (a4 a5 a6 : Option Vl), gNm 5 (.int i) ⟨le_ A B far l a4 a5 a6, om⟩ = some ⟨le_ A B far l a4 (some (.sh (.int i))) a6, om⟩ := fun _ _ _ _ => rfl
    simp only [g, inn, e1]
    rw [x_forCons]
    simp only [g, inn, e2, x_forNil]
  have z : F_law_e_lines [.lst A, .lst B, .int far, leftD l] om = ((sSeq law_e_lines_0 (sSeq law_e_lines_1 law_e_lines_2)) ⟨le_ A B far l none none none, om⟩).toF := rfl
  obtain ⟨L, hL⟩ : ∃ L, L = (ln a0 a1 b0 b1 far l).map (lineD pd) := ⟨_, rfl⟩
  rw [← hL] at s1 ⊢
  have s0 : law_e_lines_0 ⟨le_ A B far l none none none, om⟩ = .nx ⟨le_ A B far l (some (.ow [])) none none, om⟩ := by simp [law_e_lines_0]
  rw [z]
  simp only [x_seq, s0, s1, o_nx]
  simp [law_e_lines_2]
end
end Mini.K28

set_option linter.all false
set_option maxRecDepth 100000
/-! printed by mkL.py: pieces of M_k28.lean, then L_k28f.body -/
namespace Mini.K28
open Mini Mini.LibT Mini.LibR PySem
open Mini.Lib (rangeD_succ perm_out for_all for_inv comp_filter comp_map)
def law_e_answers_0 : EvS := (sPar [5, 6, 7] [(eCall F_law_e_due (aCons (eVar 0) (aCons (eVar 1) aNil))), (eB bList (aCons (eVar 0) aNil)), (eB bList (aCons (eVar 1) aNil))])
def law_e_answers_1 : EvS := (sSet 2 (eCall F_two_routes (aCons (eVar 6) (aCons (eVar 7) aNil))))
def law_e_answers_2t : EvS := (sRet (eC (.bl false)))
def law_e_answers_2 : EvS := (sIf (tOr (tNot (tTru (eKeep (eCall F_law_same_2 (aCons (eVar 2) (aCons (eVar 5) aNil)))))) (tOr (tBl (eOp oNe (eVar 6) (eVar 0))) (tBl (eOp oNe (eVar 7) (eVar 1))))) law_e_answers_2t sPass)
def law_e_answers_3t : EvS := (sRet (eC (.bl false)))
def law_e_answers_3 : EvS := (sIf (tBl (eOp oNe (eOp1 oNotN (eVar 5)) (eCall F_law_e_meets (aCons (eVar 0) (aCons (eVar 1) aNil))))) law_e_answers_3t sPass)
def law_e_answers_4t : EvS := (sRet (eC (.bl false)))
def law_e_answers_4 : EvS := (sIf (tAnd (tBl (eOp oLe (eB bMaxL (aCons (eOp oAdd (eVar 0) (eVar 1)) aNil)) (eInt 8))) (tBl (eOp oNe (eCall F_law_e_joins (aCons (eCall F_law_e_lines (aCons (eVar 0) (aCons (eVar 1) (aCons (eInt 60) (aCons (eC .non) aNil))))) aNil)) (eOp1 oNotN (eVar 5))))) law_e_answers_4t sPass)
def law_e_answers_5t : EvS := (sRet (eC (.bl true)))
def law_e_answers_5 : EvS := (sIf (tBl (eOp1 oIsN (eVar 5))) law_e_answers_5t sPass)
def law_e_answers_6_c0 : EvE := (eComp (iAny (eVar 5)) (gNm 4) tYes (eOp oIx (eVar 4) (eInt 1)) [4])
def law_e_answers_6 : EvS := (sSet 3 law_e_answers_6_c0)
def law_e_answers_7t : EvS := (sRet (eC (.bl false)))
def law_e_answers_7 : EvS := (sIf (tNot (tTru (eKeep (eCall F_law_same_2 (aCons (eCall F_route_lag (aCons (eVar 2) aNil)) (aCons (eTup (aCons (eB bMaxL (aCons (eVar 3) aNil)) (aCons (eOp oAdd (eOp oSub (eB bMaxL (aCons (eVar 3) aNil)) (eB bMinL (aCons (eVar 3) aNil))) (eInt 1)) aNil))) aNil)))))) law_e_answers_7t sPass)
def law_e_answers_8b_0t : EvS := (sRet (eC (.bl false)))
def law_e_answers_8b_0 : EvS := (sIf (tAnd (tBl (eOp oNe (eVar 0) (eVar 1))) (tAnd (tBl (eOp oLe (eB bMaxL (aCons (eOp oAdd (eVar 0) (eVar 1)) aNil)) (eInt 8))) (tTru (eCall F_law_e_joins (aCons (eCall F_law_e_lines (aCons (eVar 0) (aCons (eVar 1) (aCons (eInt 20) (aCons (eVar 4) aNil))))) aNil))))) law_e_answers_8b_0t sPass)
def law_e_answers_8b_1t : EvS := (sRet (eC (.bl false)))
def law_e_answers_8b_1 : EvS := (sIf (tBl (eOp oLt (eOp oIx (eVar 4) (eInt 1)) (eInt 0))) law_e_answers_8b_1t sPass)
def law_e_answers_8b : EvS := (sSeq law_e_answers_8b_0 law_e_answers_8b_1)
def law_e_answers_8 : EvS := (sFor (iAny (eVar 5)) (gNm 4) law_e_answers_8b)
def law_e_answers_9 : EvS := (sApp 2 (eTup (aCons (eInt 0) (aCons (eInt 99) aNil))))
def law_e_answers_10 : EvS := (sRet (eAnd (eCall F_law_same_2 (aCons (eCall F_two_routes (aCons (eVar 0) (aCons (eVar 1) aNil))) (aCons (eVar 5) aNil))) (eOr (eOp oGt (eB bMaxL (aCons (eOp oAdd (eVar 0) (eVar 1)) aNil)) (eInt 8)) (eCall F_law_e_joins (aCons (eCall F_law_e_lines (aCons (eVar 0) (aCons (eVar 1) (aCons (eInt 20) (aCons (eC .non) aNil))))) aNil)))))
theorem law_e_answers_eq : F_law_e_answers = runDef 8 (sSeq law_e_answers_0 (sSeq law_e_answers_1 (sSeq law_e_answers_2 (sSeq law_e_answers_3 (sSeq law_e_answers_4 (sSeq law_e_answers_5 (sSeq law_e_answers_6 (sSeq law_e_answers_7 (sSeq law_e_answers_8 (sSeq law_e_answers_9 law_e_answers_10)))))))))) := rfl
/-! ### answers -/
theorem ne_bb (a b : Bool) : oNe (.bl a) (.bl b) = some (.sh (.bl (!(a == b)))) := rfl
theorem ne_lists (a b : List Int) : oNe (.lst (intsD a)) (.lst (intsD b)) = some (.sh (.bl (!decide (a = b)))) := by
  have h := fines_ints a 19
  have h' := fines_ints b 19
  rw [v_ne (by simpa using h) (by simpa using h')]
  simp [eqs_ints]
abbrev ae (a0 a1 a2 a3 a4 a5 a6 a7 : Option Vl) : List (Option Vl) := [a0, a1, a2, a3, a4, a5, a6, a7]
theorem out_d (o : Option (List Pt)) : (outD o).d = match o with
  | none => D.non
  | some l => .lst (l.map pd) := by cases o <;> rfl
theorem way_len {a0 a1 b0 b1 : Int} {l : List Pt} (h : due a0 a1 b0 b1 = some l) (ha0 : 0 ≤ a0 ∧ a0 ≤ 60) (ha1 : 0 ≤ a1 ∧ a1 ≤ 60) (hb0 : 0 ≤ b0 ∧ b0 ≤ 60) (hb1 : 0 ≤ b1 ∧ b1 ≤ 60) : l ≠ [] ∧ l.length ≤ 200 := by
  have key : ∀ (i j ai aj si sj : Int) (l : List Pt), si.natAbs ≤ 60 → si ≠ 0 → zig i j ai aj si sj = some l → l ≠ [] ∧ l.length ≤ 200 := by
    intro i j ai aj si sj l hb hs h
    unfold zig at h
    obtain ⟨t, ht, rfl⟩ := Option.map_eq_some_iff.mp h
    obtain ⟨h0, h1, h2⟩ := times_some.mp ht
    have q1 : t ∣ si.natAbs := by
      rw [show si.natAbs = (-si).natAbs by omega, ← h2, Int.natAbs_mul, Int.natAbs_natCast]
      exact Nat.dvd_mul_right _ _
    have := Nat.le_of_dvd (by omega) q1
    have e : (psort (raw i j ai aj (si - sj) t)).length = t + 1 + t := by
      rw [psort_len]
      unfold raw
      simp
    exact ⟨fun z => by rw [z] at e; simp at e; omega, by omega⟩
  unfold due at h
  split at h
  · cases h
    simp
  · rename_i c
    rw [not_or] at c
    split at h
    · rename_i l' e
      cases h
      exact key _ _ _ _ _ _ _ (by omega) (by omega) e
    · exact key _ _ _ _ _ _ _ (by omega) (by omega) h
theorem noLst_bl (b : Bool) : (D.bl b).noLst = true := rfl
section
variable {a0 a1 b0 b1 : Int} (ha0 : 0 ≤ a0 ∧ a0 ≤ 60) (ha1 : 0 ≤ a1 ∧ a1 ≤ 60) (hb0 : 0 ≤ b0 ∧ b0 ≤ 60) (hb1 : 0 ≤ b1 ∧ b1 ≤ 60)
include ha0 ha1 hb0 hb1
theorem ans_ok (om : List Cell) (ho : om.all Cell.noLst = true) : ∃ r, F_law_e_answers [.lst (intsD [a0, a1]), .lst (intsD [b0, b1])] om = .ok (.sh (.bl true)) (om ++ r) ∧ Calm r := by
  have dok := fun om => due_ok ha0 ha1 hb0 hb1 om
  have tok := fun om => two_ok ha0 ha1 hb0 hb1 om
  have sm : Small (shifts [a0, a1] [b0, b1]) := small_shifts (fun x hx => by simp only [List.mem_cons, List.mem_nil_iff, or_false] at hx; rcases hx with rfl | rfl <;> assumption) (fun x hx => by simp only [List.mem_cons, List.mem_nil_iff, or_false] at hx; rcases hx with rfl | rfl <;> assumption)
  have mok := fun om => lm_ok [a0, a1] [b0, b1] rfl (by simp) (by simp) sm om
  have eS : shifts [a0, a1] [b0, b1] = [a0 - b0, a1 - b1] := rfl
  rw [eS] at mok
  have hdi := due_iff (a0 := a0) (a1 := a1) (b0 := b0) (b1 := b1)
  obtain ⟨mx, hmx, _⟩ := bmax_ints (xs := [a0, a1, b0, b1]) (by simp)
  have hall := bmax_all hmx
  have eAB : intsD [a0, a1, b0, b1] = intsD [a0, a1] ++ intsD [b0, b1] := rfl
  rw [eAB] at hmx
  have nAB := ne_lists [a0, a1] [b0, b1]
  have nA := ne_lists [a0, a1] [a0, a1]
  have nB := ne_lists [b0, b1] [b0, b1]
  rw [decide_eq_true rfl] at nA nB
  have lA : (intsD [a0, a1]).length = 2 := rfl
  have lB : (intsD [b0, b1]).length = 2 := rfl
  have iA0 : oIx (.lst (intsD [a0, a1])) (.int 0) = some (.sh (.int a0)) := by simp
  have iA1 : oIx (.lst (intsD [a0, a1])) (.int 1) = some (.sh (.int a1)) := by simp
  have iB0 : oIx (.lst (intsD [b0, b1])) (.int 0) = some (.sh (.int b0)) := by simp
  have iB1 : oIx (.lst (intsD [b0, b1])) (.int 1) = some (.sh (.int b1)) := by simp
  obtain ⟨A, hA⟩ : ∃ A, A = intsD [a0, a1] := ⟨_, rfl⟩
  obtain ⟨B, hB⟩ : ∃ A, A = intsD [b0, b1] := ⟨_, rfl⟩
  simp only [← hA, ← hB] at dok tok mok hmx nAB nA nB lA lB iA0 iA1 iB0 iB1 ⊢
  -- webs
  have web : ∀ (far : Nat) (l : Option Pt) (om : List Cell), far ≤ 100 → ∃ (t : Bool) (r : List Cell) (L : List D), F_law_e_lines [.lst A, .lst B, .int far, leftD l] om = .ok (.ow L) om ∧ F_law_e_joins [.lst L] om = .ok (.sh (.bl t)) (om ++ r) ∧ Calm r ∧ (t = true ↔ Rch (ln a0 a1 b0 b1 far l) (0, 0) (1, 0)) := by
    intro far l om hf
    have h1 := lines_ok iA0 iA1 iB0 iB1 far hf l om
    have len := ln_len a0 a1 b0 b1 far l
    obtain ⟨t, r, h2, h3, h4⟩ := joins_ok (ln a0 a1 b0 b1 far l) (by omega) om
    exact ⟨t, r, _, h1, h2, h3, h4⟩
  obtain ⟨bm, hbm1, hbm2⟩ := mok om
  have cat : oAdd (.lst A) (.lst B) = some (.ow (A ++ B)) := v_cat (by omega)
  -- the head
  have z : F_law_e_answers [.lst A, .lst B] om = ((sSeq law_e_answers_0 (sSeq law_e_answers_1 (sSeq law_e_answers_2 (sSeq law_e_answers_3 (sSeq law_e_answers_4 (sSeq law_e_answers_5 (sSeq law_e_answers_6 (sSeq law_e_answers_7 (sSeq law_e_answers_8 (sSeq law_e_answers_9 law_e_answers_10)))))))))) ⟨ae (some (.sh (.lst A))) (some (.sh (.lst B))) none none none none none none, om⟩).toF := rfl
  rw [z]
  obtain ⟨O, hO⟩ : ∃ O, O = outD (due a0 a1 b0 b1) := ⟨_, rfl⟩
  have dok' := dok om
  have tok' := tok om
  rw [← hO] at dok' tok'
  have s0 : law_e_answers_0 ⟨ae (some (.sh (.lst A))) (some (.sh (.lst B))) none none none none none none, om⟩ = .nx ⟨ae (some (.sh (.lst A))) (some (.sh (.lst B))) none none none (some O) (some (.ow A)) (some (.ow B)), om⟩ := by simp [law_e_answers_0, dok']
  have s1 : law_e_answers_1 ⟨ae (some (.sh (.lst A))) (some (.sh (.lst B))) none none none (some O) (some (.ow A)) (some (.ow B)), om⟩ = .nx ⟨ae (some (.sh (.lst A))) (some (.sh (.lst B))) (some O) none none (some O) (some (.sh (.lst A))) (some (.sh (.lst B))), om⟩ := by simp [law_e_answers_1, tok']
  simp only [x_seq, s0, s1, o_nx]
  obtain ⟨t60, r60, L60, h60a, h60b, h60c, h60d⟩ := web 60 none om (by decide)
  have h60a : F_law_e_lines [.lst A, .lst B, .int 60, .non] om = _ := h60a
  cases hd : due a0 a1 b0 b1 with
  | none =>
    have hO : O = .sh .non := by rw [hO, hd]; rfl
    subst hO
    have nm : ¬ Meets [a0 - b0, a1 - b1] := fun h => by obtain ⟨l, e⟩ := hdi.mpr h; rw [hd] at e; cases e
    have eb : bm = false := by cases bm with
      | false => rfl
      | true => exact absurd (hbm2.mp rfl) nm
    have et : t60 = false := by cases t60 with
      | false => rfl
      | true => exact absurd (rch_sound (h60d.mp rfl)) nm
    subst eb et
    have k := keep_ok (e := eCall F_law_same_2 (aCons (eVar 2) (aCons (eVar 5) aNil))) (st := ⟨ae (some (.sh (.lst A))) (some (.sh (.lst B))) (some (.sh .non)) none none (some (.sh .non)) (some (.sh (.lst A))) (some (.sh (.lst B))), om⟩) (v := .sh (.bl true)) (E := ae (some (.sh (.lst A))) (some (.sh (.lst B))) (some (.sh .non)) none none (some (.sh .non)) (some (.sh (.lst A))) (some (.sh (.lst B)))) (s1 := ⟨ae (some (.sh (.lst A))) (some (.sh (.lst B))) (some (.sh .non)) none none (some (.sh .non)) (some (.sh (.lst A))) (some (.sh (.lst B))), om⟩) rfl (by simp [same2_non]) rfl ho
    have s2 : law_e_answers_2 ⟨ae (some (.sh (.lst A))) (some (.sh (.lst B))) (some (.sh .non)) none none (some (.sh .non)) (some (.sh (.lst A))) (some (.sh (.lst B))), om⟩ = .nx ⟨ae (some (.sh (.lst A))) (some (.sh (.lst B))) (some (.sh .non)) none none (some (.sh .non)) (some (.sh (.lst A))) (some (.sh (.lst B))), om⟩ := by
      simp [law_e_answers_2, k, nA, nB]
    have s3 : law_e_answers_3 ⟨ae (some (.sh (.lst A))) (some (.sh (.lst B))) (some (.sh .non)) none none (some (.sh .non)) (some (.sh (.lst A))) (some (.sh (.lst B))), om⟩ = .nx ⟨ae (some (.sh (.lst A))) (some (.sh (.lst B))) (some (.sh .non)) none none (some (.sh .non)) (some (.sh (.lst A))) (some (.sh (.lst B))), om⟩ := by
      simp [law_e_answers_3, hbm1, ne_bb]
    by_cases c : mx ≤ 8
    · refine ⟨r60, ?_, h60c⟩
      have s4 : law_e_answers_4 ⟨ae (some (.sh (.lst A))) (some (.sh (.lst B))) (some (.sh .non)) none none (some (.sh .non)) (some (.sh (.lst A))) (some (.sh (.lst B))), om⟩ = .nx ⟨ae (some (.sh (.lst A))) (some (.sh (.lst B))) (some (.sh .non)) none none (some (.sh .non)) (some (.sh (.lst A))) (some (.sh (.lst B))), om ++ r60⟩ := by
        simp [law_e_answers_4, cat, hmx, c, h60a, h60b, ne_bb]
      simp only [x_seq, s2, s3, s4, o_nx]
      simp [law_e_answers_5, law_e_answers_5t]
    · refine ⟨[], ?_, Calm.nil⟩
      have s4 : law_e_answers_4 ⟨ae (some (.sh (.lst A))) (some (.sh (.lst B))) (some (.sh .non)) none none (some (.sh .non)) (some (.sh (.lst A))) (some (.sh (.lst B))), om⟩ = .nx ⟨ae (some (.sh (.lst A))) (some (.sh (.lst B))) (some (.sh .non)) none none (some (.sh .non)) (some (.sh (.lst A))) (some (.sh (.lst B))), om⟩ := by
        simp [law_e_answers_4, cat, hmx, c]
      simp only [x_seq, s2, s3, s4, o_nx]
      simp [law_e_answers_5, law_e_answers_5t]
  | some l =>
    have hO : O = .ow (l.map pd) := by rw [hO, hd]; rfl
    subst hO
    obtain ⟨lne, llen⟩ := way_len hd ha0 ha1 hb0 hb1
    have w := due_way hd
    have pos := way_nonneg w ha0.1 ha1.1 hb0.1 hb1.1
    have m1 : Meets [a0 - b0, a1 - b1] := hdi.mp ⟨l, hd⟩
    have eb : bm = true := hbm2.mpr m1
    subst eb
    have sL := fun om => same2_pds l (by omega) om
    obtain ⟨bx, hbx, _⟩ := bmax_ints (beats_ne lne)
    obtain ⟨bn, hbn, _⟩ := bmin_ints (beats_ne lne)
    have lag := fun om => lag_ok lne (by omega) hbx hbn om
    have sT := fun om => same2_tup [bx, bx - bn + 1] (by simp) om
    have sT : ∀ om, F_law_same_2 [lagD bx bn, lagD bx bn] om = _ := sT
    have c6 := fun (a2 a6 a7 : Option Vl) (om : List Cell) => comp_eval (it := iAny (eVar 5)) (g := gNm 4) (e := eOp oIx (eVar 4) (eInt 1)) (vs := [4]) (st := ⟨ae (some (.sh (.lst A))) (some (.sh (.lst B))) a2 none none (some (.sh (.lst (l.map pd)))) a6 a7, om⟩) pd (fun p : Pt => .int p.2) l (by simp) (by simp) (by omega)
      (fun p _ => ⟨⟨ae (some (.sh (.lst A))) (some (.sh (.lst B))) a2 none (some (.sh (pd p))) (some (.sh (.lst (l.map pd)))) a6 a7, om⟩, .sh (.int p.2), ⟨ae (some (.sh (.lst A))) (some (.sh (.lst B))) a2 none (some (.sh (pd p))) (some (.sh (.lst (l.map pd)))) a6 a7, om⟩, rfl, by simp [pd], rfl, rfl, rfl⟩) (by simp)
    have e6 : l.map (fun p : Pt => D.int p.2) = intsD (beats l) := by simp [beats, intsD]
    simp only [e6] at c6
    have c6 : ∀ (a2 a6 a7 : Option Vl) (om : List Cell), law_e_answers_6_c0 _ = _ := c6
    -- the walk along the looks
    have walk : ∀ (ps : List Pt) (om : List Cell) (a2 a3 d4 : Option Vl), (∀ p ∈ ps, p ∈ l) → ∃ r d4', forGo (gNm 4) law_e_answers_8b (ps.map pd) ⟨ae (some (.sh (.lst A))) (some (.sh (.lst B))) a2 a3 d4 (some (.sh (.lst (l.map pd)))) (some (.sh (.lst A))) (some (.sh (.lst B))), om⟩ = .nx ⟨ae (some (.sh (.lst A))) (some (.sh (.lst B))) a2 a3 d4' (some (.sh (.lst (l.map pd)))) (some (.sh (.lst A))) (some (.sh (.lst B))), om ++ r⟩ ∧ Calm r := by
      intro ps
      induction ps with
      | nil => intro om a2 a3 d4 _; exact ⟨[], d4, by simp, Calm.nil⟩
      | cons p ps ih =>
        intro om a2 a3 d4 hp
        have hpl := hp p (by simp)
        have p0 := pos p hpl
        have g : gNm 4 (pd p) ⟨ae (some (.sh (.lst A))) (some (.sh (.lst B))) a2 a3 d4 (some (.sh (.lst (l.map pd)))) (some (.sh (.lst A))) (some (.sh (.lst B))), om⟩ = some ⟨ae (some (.sh (.lst A))) (some (.sh (.lst B))) a2 a3 (some (.sh (pd p))) (some (.sh (.lst (l.map pd)))) (some (.sh (.lst A))) (some (.sh (.lst B))), om⟩ := rfl
        have b : ∃ r, law_e_answers_8b ⟨ae (some (.sh (.lst A))) (some (.sh (.lst B))) a2 a3 (some (.sh (pd p))) (some (.sh (.lst (l.map pd)))) (some (.sh (.lst A))) (some (.sh (.lst B))), om⟩ = .nx ⟨ae (some (.sh (.lst A))) (some (.sh (.lst B))) a2 a3 (some (.sh (pd p))) (some (.sh (.lst (l.map pd)))) (some (.sh (.lst A))) (some (.sh (.lst B))), om ++ r⟩ ∧ Calm r := by
          have i2 : oIx (pd p) (.int 1) = some (.sh (.int p.2)) := by simp [pd]
          by_cases e : ([a0, a1] : List Int) = [b0, b1]
          · rw [decide_eq_true e] at nAB
            exact ⟨[], by simp [law_e_answers_8b, law_e_answers_8b_0, law_e_answers_8b_1, nAB, i2, show ¬ p.2 < 0 by omega], Calm.nil⟩
          · rw [decide_eq_false e] at nAB
            by_cases c : mx ≤ 8
            · obtain ⟨t, r, L, h1, h2, h3, h4⟩ := web 20 (some p) om (by decide)
              have et : t = false := by
                cases t with
                | false => rfl
                | true => exact absurd (h4.mp rfl) (rch_cut w (fun z => e (by rw [z.1, z.2])) hpl 20)
              subst et
              have h1 : F_law_e_lines [.lst A, .lst B, .int 20, pd p] om = _ := h1
              exact ⟨r, by simp [law_e_answers_8b, law_e_answers_8b_0, law_e_answers_8b_1, nAB, i2, show ¬ p.2 < 0 by omega, cat, hmx, c, h1, h2], h3⟩
            · exact ⟨[], by simp [law_e_answers_8b, law_e_answers_8b_0, law_e_answers_8b_1, nAB, i2, show ¬ p.2 < 0 by omega, cat, hmx, c], Calm.nil⟩
        obtain ⟨r, b1, b2⟩ := b
        obtain ⟨r', d4', e1, e2⟩ := ih (om ++ r) a2 a3 (some (.sh (pd p))) fun q hq => hp q (by simp [hq])
        refine ⟨r ++ r', d4', ?_, b2.app e2⟩
        rw [List.map_cons, x_forCons]
        simp only [g, b1, e1, List.append_assoc]
    obtain ⟨LD, hLD⟩ : ∃ L, L = l.map pd := ⟨_, rfl⟩
    obtain ⟨BD, hBD⟩ : ∃ L, L = intsD (beats l) := ⟨_, rfl⟩
    have lLD : LD.length < 1000 := by rw [hLD, List.length_map]; omega
    simp only [← hLD, ← hBD] at sL hbx hbn lag c6 walk ⊢
    have tok2 : ∀ om, F_two_routes [.lst A, .lst B] om = .ok (.ow LD) om := fun om => by rw [tok om, hd, hLD]; rfl
    have k := keep_ok (e := eCall F_law_same_2 (aCons (eVar 2) (aCons (eVar 5) aNil))) (st := ⟨ae (some (.sh (.lst A))) (some (.sh (.lst B))) (some (.ow LD)) none none (some (.ow LD)) (some (.sh (.lst A))) (some (.sh (.lst B))), om⟩) (v := .sh (.bl true)) (E := ae (some (.sh (.lst A))) (some (.sh (.lst B))) (some (.sh (.lst LD))) none none (some (.sh (.lst LD))) (some (.sh (.lst A))) (some (.sh (.lst B)))) (s1 := ⟨ae (some (.sh (.lst A))) (some (.sh (.lst B))) (some (.sh (.lst LD))) none none (some (.sh (.lst LD))) (some (.sh (.lst A))) (some (.sh (.lst B))), om⟩) rfl (by simp [sL]) rfl ho
    have s2 : law_e_answers_2 ⟨ae (some (.sh (.lst A))) (some (.sh (.lst B))) (some (.ow LD)) none none (some (.ow LD)) (some (.sh (.lst A))) (some (.sh (.lst B))), om⟩ = .nx ⟨ae (some (.sh (.lst A))) (some (.sh (.lst B))) (some (.ow LD)) none none (some (.ow LD)) (some (.sh (.lst A))) (some (.sh (.lst B))), om⟩ := by
      simp [law_e_answers_2, k, nA, nB]
    have s3 : law_e_answers_3 ⟨ae (some (.sh (.lst A))) (some (.sh (.lst B))) (some (.ow LD)) none none (some (.ow LD)) (some (.sh (.lst A))) (some (.sh (.lst B))), om⟩ = .nx ⟨ae (some (.sh (.lst A))) (some (.sh (.lst B))) (some (.ow LD)) none none (some (.sh (.lst LD))) (some (.sh (.lst A))) (some (.sh (.lst B))), om⟩ := by
      simp [law_e_answers_3, hbm1, ne_bb]
    have s4 : ∃ r, law_e_answers_4 ⟨ae (some (.sh (.lst A))) (some (.sh (.lst B))) (some (.ow LD)) none none (some (.sh (.lst LD))) (some (.sh (.lst A))) (some (.sh (.lst B))), om⟩ = .nx ⟨ae (some (.sh (.lst A))) (some (.sh (.lst B))) (some (.ow LD)) none none (some (.sh (.lst LD))) (some (.sh (.lst A))) (some (.sh (.lst B))), om ++ r⟩ ∧ Calm r := by
      by_cases c : mx ≤ 8
      · have sm8 : ∀ x ∈ [a0, a1, b0, b1], x ≤ 8 := fun x hx => by have := hall x hx; omega
        have et : t60 = true := h60d.mpr (rch_way w (by decide) ⟨ha0.1, sm8 _ (by simp)⟩ ⟨ha1.1, sm8 _ (by simp)⟩ ⟨hb0.1, sm8 _ (by simp)⟩ ⟨hb1.1, sm8 _ (by simp)⟩)
        subst et
        exact ⟨r60, by simp [law_e_answers_4, cat, hmx, c, h60a, h60b, ne_bb], h60c⟩
      · exact ⟨[], by simp [law_e_answers_4, cat, hmx, c], Calm.nil⟩
    obtain ⟨r4, s4, q4⟩ := s4
    have s5 : law_e_answers_5 ⟨ae (some (.sh (.lst A))) (some (.sh (.lst B))) (some (.ow LD)) none none (some (.sh (.lst LD))) (some (.sh (.lst A))) (some (.sh (.lst B))), om ++ r4⟩ = .nx ⟨ae (some (.sh (.lst A))) (some (.sh (.lst B))) (some (.ow LD)) none none (some (.sh (.lst LD))) (some (.sh (.lst A))) (some (.sh (.lst B))), om ++ r4⟩ := by simp [law_e_answers_5]
    have s6 : law_e_answers_6 ⟨ae (some (.sh (.lst A))) (some (.sh (.lst B))) (some (.ow LD)) none none (some (.sh (.lst LD))) (some (.sh (.lst A))) (some (.sh (.lst B))), om ++ r4⟩ = .nx ⟨ae (some (.sh (.lst A))) (some (.sh (.lst B))) (some (.ow LD)) (some (.ow BD)) none (some (.sh (.lst LD))) (some (.sh (.lst A))) (some (.sh (.lst B))), om ++ r4⟩ := by simp [law_e_answers_6, c6]
    have ho4 : (om ++ r4).all Cell.noLst = true := by rw [List.all_append, ho, q4.2]; rfl
    have k7 := keep_ok (e := eCall F_law_same_2 (aCons (eCall F_route_lag (aCons (eVar 2) aNil)) (aCons (eTup (aCons (eB bMaxL (aCons (eVar 3) aNil)) (aCons (eOp oAdd (eOp oSub (eB bMaxL (aCons (eVar 3) aNil)) (eB bMinL (aCons (eVar 3) aNil))) (eInt 1)) aNil))) aNil))) (st := ⟨ae (some (.sh (.lst A))) (some (.sh (.lst B))) (some (.ow LD)) (some (.ow BD)) none (some (.sh (.lst LD))) (some (.sh (.lst A))) (some (.sh (.lst B))), om ++ r4⟩) (v := .sh (.bl true)) (E := ae (some (.sh (.lst A))) (some (.sh (.lst B))) (some (.sh (.lst LD))) (some (.sh (.lst BD))) none (some (.sh (.lst LD))) (some (.sh (.lst A))) (some (.sh (.lst B)))) (s1 := ⟨ae (some (.sh (.lst A))) (some (.sh (.lst B))) (some (.sh (.lst LD))) (some (.sh (.lst BD))) none (some (.sh (.lst LD))) (some (.sh (.lst A))) (some (.sh (.lst B))), om ++ r4⟩) rfl (by
      have sT' := sT (om ++ r4)
      simp only [lagD] at sT' lag
      simp [lag, hbx, hbn, sT']) rfl ho4
    have s7 : law_e_answers_7 ⟨ae (some (.sh (.lst A))) (some (.sh (.lst B))) (some (.ow LD)) (some (.ow BD)) none (some (.sh (.lst LD))) (some (.sh (.lst A))) (some (.sh (.lst B))), om ++ r4⟩ = .nx ⟨ae (some (.sh (.lst A))) (some (.sh (.lst B))) (some (.ow LD)) (some (.ow BD)) none (some (.sh (.lst LD))) (some (.sh (.lst A))) (some (.sh (.lst B))), om ++ r4⟩ := by
      simp [law_e_answers_7, k7]
    obtain ⟨r8, d4, e8, q8⟩ := walk l (om ++ r4) (some (.ow LD)) (some (.ow BD)) none fun p hp => hp
    rw [← hLD] at e8
    have s8 : law_e_answers_8 ⟨ae (some (.sh (.lst A))) (some (.sh (.lst B))) (some (.ow LD)) (some (.ow BD)) none (some (.sh (.lst LD))) (some (.sh (.lst A))) (some (.sh (.lst B))), om ++ r4⟩ = .nx ⟨ae (some (.sh (.lst A))) (some (.sh (.lst B))) (some (.ow LD)) (some (.ow BD)) d4 (some (.sh (.lst LD))) (some (.sh (.lst A))) (some (.sh (.lst B))), om ++ r4 ++ r8⟩ := by
      rw [← e8]
      simp [law_e_answers_8]
    have s9 : law_e_answers_9 ⟨ae (some (.sh (.lst A))) (some (.sh (.lst B))) (some (.ow LD)) (some (.ow BD)) d4 (some (.sh (.lst LD))) (some (.sh (.lst A))) (some (.sh (.lst B))), om ++ r4 ++ r8⟩ = .nx ⟨ae (some (.sh (.lst A))) (some (.sh (.lst B))) (some (.ow (LD ++ [pd (0, 99)]))) (some (.ow BD)) d4 (some (.sh (.lst LD))) (some (.sh (.lst A))) (some (.sh (.lst B))), om ++ r4 ++ r8⟩ := by
      simp [law_e_answers_9, pd, show LD.length < 100000 by omega]
    simp only [x_seq, s2, s3, s4, s5, s6, s7, s8, s9, o_nx]
    obtain ⟨o8, ho8⟩ : ∃ o, o = om ++ r4 ++ r8 := ⟨_, rfl⟩
    rw [← ho8]
    by_cases c : mx ≤ 8
    · obtain ⟨t, r, L, h1, h2, h3, h4⟩ := web 20 none o8 (by decide)
      have sm8 : ∀ x ∈ [a0, a1, b0, b1], x ≤ 8 := fun x hx => by have := hall x hx; omega
      have et : t = true := h4.mpr (rch_way w (by decide) ⟨ha0.1, sm8 _ (by simp)⟩ ⟨ha1.1, sm8 _ (by simp)⟩ ⟨hb0.1, sm8 _ (by simp)⟩ ⟨hb1.1, sm8 _ (by simp)⟩)
      subst et
      have h1 : F_law_e_lines [.lst A, .lst B, .int 20, .non] o8 = _ := h1
      refine ⟨r4 ++ r8 ++ r, ?_, (q4.app q8).app h3⟩
      have ea : om ++ (r4 ++ r8 ++ r) = o8 ++ r := by rw [ho8]; simp only [List.append_assoc]
      rw [ea]
      simp [law_e_answers_10, tok2, sL, cat, hmx, show ¬ 8 < mx by omega, h1, h2]
    · refine ⟨r4 ++ r8, ?_, q4.app q8⟩
      have ea : om ++ (r4 ++ r8) = o8 := by rw [ho8]; simp only [List.append_assoc]
      rw [ea]
      simp [law_e_answers_10, tok2, sL, cat, hmx, show 8 < mx by omega]
end
end Mini.K28

set_option linter.all false
set_option maxRecDepth 100000
/-! printed by mkL.py: pieces of M_k28.lean, then L_k28g.body -/
namespace Mini.K28
open Mini Mini.LibT Mini.LibR PySem
open Mini.Lib (rangeD_succ perm_out for_all for_inv comp_filter comp_map)
def law_e_draw_0 : EvS := (sPar [5, 6] [(eCall F_law_pick (aCons (eVar 0) (aCons (eInt 6) aNil))), (eCall F_law_one (aCons (eVar 0) (aCons (eLst (aCons (eInt 8) (aCons (eInt 8) (aCons (eInt 60) aNil)))) aNil)))])
def law_e_draw_1t : EvS := (sRet (eTup (aCons (eLst (aCons (eCall F_law_pick (aCons (eVar 0) (aCons (eInt 9) aNil))) (aCons (eCall F_law_pick (aCons (eVar 0) (aCons (eInt 9) aNil))) aNil))) (aCons (eLst (aCons (eCall F_law_pick (aCons (eVar 0) (aCons (eInt 9) aNil))) (aCons (eCall F_law_pick (aCons (eVar 0) (aCons (eInt 9) aNil))) aNil))) aNil))))
def law_e_draw_1 : EvS := (sIf (tBl (eOp oEq (eVar 5) (eInt 0))) law_e_draw_1t sPass)
def law_e_draw_2t_0 : EvS := (sSet 7 (eLst (aCons (eCall F_law_pick (aCons (eVar 0) (aCons (eOp oAdd (eVar 6) (eInt 1)) aNil))) (aCons (eCall F_law_pick (aCons (eVar 0) (aCons (eOp oAdd (eVar 6) (eInt 1)) aNil))) aNil))))
def law_e_draw_2t_1 : EvS := (sSet 8 (eB bList (aCons (eVar 7) aNil)))
def law_e_draw_2t_2t : EvS := (sIxPut 8 (eCall F_law_pick (aCons (eVar 0) (aCons (eInt 2) aNil))) (eCall F_law_pick (aCons (eVar 0) (aCons (eOp oAdd (eVar 6) (eInt 1)) aNil))))
def law_e_draw_2t_2 : EvS := (sIf (tTru (eCall F_law_pick (aCons (eVar 0) (aCons (eInt 2) aNil)))) law_e_draw_2t_2t sPass)
def law_e_draw_2t_3 : EvS := (sRet (eTup (aCons (eVar 7) (aCons (eVar 8) aNil))))
def law_e_draw_2 : EvS := (sIf (tBl (eOp oEq (eVar 5) (eInt 1))) (sSeq law_e_draw_2t_0 (sSeq law_e_draw_2t_1 (sSeq law_e_draw_2t_2 law_e_draw_2t_3))) sPass)
def law_e_draw_3 : EvS := (sSet 1 (eCall F_law_within (aCons (eVar 0) (aCons (eInt 1) (aCons (eCall F_law_one (aCons (eVar 0) (aCons (eLst (aCons (eInt 2) (aCons (eOp oSub (eOp oDiv (eVar 6) (eInt 2)) (eInt 1)) aNil))) aNil))) aNil)))))
def law_e_draw_4 : EvS := (sSet 2 (eCall F_law_within (aCons (eVar 0) (aCons (eInt 1) (aCons (eOp oDiv (eVar 6) (eOp oAdd (eVar 1) (eInt 1))) aNil)))))
def law_e_draw_5 : EvS := (sSet 3 (eLst (aCons (eCall F_law_pick (aCons (eVar 0) (aCons (eOp oAdd (eOp oSub (eVar 6) (eOp oMul (eVar 1) (eVar 2))) (eInt 1)) aNil))) (aCons (eCall F_law_pick (aCons (eVar 0) (aCons (eOp oAdd (eOp oSub (eVar 6) (eOp oMul (eOp oAdd (eVar 1) (eInt 1)) (eVar 2))) (eInt 1)) aNil))) aNil))))
def law_e_draw_6 : EvS := (sSet 4 (eLst (aCons (eOp oAdd (eOp oIx (eVar 3) (eInt 0)) (eOp oMul (eVar 1) (eVar 2))) (aCons (eOp oAdd (eOp oIx (eVar 3) (eInt 1)) (eOp oMul (eOp oAdd (eVar 1) (eInt 1)) (eVar 2))) aNil))))
def law_e_draw_7t : EvS := (sIxPut 4 (eInt 1) (eCall F_law_pick (aCons (eVar 0) (aCons (eOp oAdd (eVar 6) (eInt 1)) aNil))))
def law_e_draw_7 : EvS := (sIf (tBl (eOp oEq (eVar 5) (eInt 5))) law_e_draw_7t sPass)
def law_e_draw_8 : EvS := (sGet (gTp (gMore (gNm 7) (gMore (gNm 8) gNone))) (eIf (tTru (eCall F_law_pick (aCons (eVar 0) (aCons (eInt 2) aNil)))) (eTup (aCons (eVar 3) (aCons (eVar 4) aNil))) (eTup (aCons (eVar 4) (aCons (eVar 3) aNil)))))
def law_e_draw_9t : EvS := (sPar [7, 8] [(eLst (aCons (eOp oIx (eVar 7) (eInt 1)) (aCons (eOp oIx (eVar 7) (eInt 0)) aNil))), (eLst (aCons (eOp oIx (eVar 8) (eInt 1)) (aCons (eOp oIx (eVar 8) (eInt 0)) aNil)))])
def law_e_draw_9 : EvS := (sIf (tTru (eCall F_law_pick (aCons (eVar 0) (aCons (eInt 2) aNil)))) law_e_draw_9t sPass)
def law_e_draw_10 : EvS := (sRet (eTup (aCons (eVar 7) (aCons (eVar 8) aNil))))
theorem law_e_draw_eq : F_law_e_draw = runDef 9 (sSeq law_e_draw_0 (sSeq law_e_draw_1 (sSeq law_e_draw_2 (sSeq law_e_draw_3 (sSeq law_e_draw_4 (sSeq law_e_draw_5 (sSeq law_e_draw_6 (sSeq law_e_draw_7 (sSeq law_e_draw_8 (sSeq law_e_draw_9 law_e_draw_10)))))))))) := rfl
/-! ### the draw -/
abbrev dr (a0 a1 a2 a3 a4 a5 a6 a7 a8 : Option Vl) : List (Option Vl) := [a0, a1, a2, a3, a4, a5, a6, a7, a8]
def In60 (x : Int) : Prop := 0 ≤ x ∧ x ≤ 60
def two (x y : Int) : D := .lst [.int x, .int y]
section
variable {pre om rest : List Cell}
theorem draw_ok (h : Src pre om rest) : ∃ (a0 a1 b0 b1 : Int) (om' : List Cell), F_law_e_draw [.cell (pre.length + 1)] om = .ok (.sh (.tup [two a0 a1, two b0 b1])) om' ∧ Src pre om' rest ∧ In60 a0 ∧ In60 a1 ∧ In60 b0 ∧ In60 b1 := by
  obtain ⟨style, om1, e1, h1, y0, y1⟩ := pick1 h (m := 6) (by decide) (by decide)
  obtain ⟨top, om2, e2, h2, ht⟩ := one_int h1 (xs := [8, 8, 60]) (by simp) (by simp)
  simp only [List.mem_cons, List.mem_nil_iff, or_false] at ht
  have ht : top = 8 ∨ top = 60 := by omega
  simp only [intsD, List.map_cons, List.map_nil] at e2
  have z : F_law_e_draw [.cell (pre.length + 1)] om = ((sSeq law_e_draw_0 (sSeq law_e_draw_1 (sSeq law_e_draw_2 (sSeq law_e_draw_3 (sSeq law_e_draw_4 (sSeq law_e_draw_5 (sSeq law_e_draw_6 (sSeq law_e_draw_7 (sSeq law_e_draw_8 (sSeq law_e_draw_9 law_e_draw_10)))))))))) ⟨dr (sD pre) none none none none none none none none, om⟩).toF := rfl
  have d0 : law_e_draw_0 ⟨dr (sD pre) none none none none none none none none, om⟩ = .nx ⟨dr (sD pre) none none none none (some (.sh (.int style))) (some (.sh (.int top))) none none, om2⟩ := by simp [law_e_draw_0, e1, e2]
  rw [z]
  simp only [x_seq, d0, o_nx]
  by_cases c0 : style = 0
  · obtain ⟨p, om3, e3, h3, p0, p1⟩ := pick1 h2 (m := 9) (by decide) (by decide)
    obtain ⟨q, om4, e4, h4, q0, q1⟩ := pick1 h3 (m := 9) (by decide) (by decide)
    obtain ⟨r, om5, e5, h5, r0, r1⟩ := pick1 h4 (m := 9) (by decide) (by decide)
    obtain ⟨s, om6, e6, h6, s0, s1⟩ := pick1 h5 (m := 9) (by decide) (by decide)
    refine ⟨p, q, r, s, om6, ?_, h6, ⟨by omega, by omega⟩, ⟨by omega, by omega⟩, ⟨by omega, by omega⟩, ⟨by omega, by omega⟩⟩
    simp [law_e_draw_1, law_e_draw_1t, c0, e3, e4, e5, e6, two]
  · have d1 : law_e_draw_1 ⟨dr (sD pre) none none none none (some (.sh (.int style))) (some (.sh (.int top))) none none, om2⟩ = .nx ⟨dr (sD pre) none none none none (some (.sh (.int style))) (some (.sh (.int top))) none none, om2⟩ := by simp [law_e_draw_1, c0]
    simp only [x_seq, d1, o_nx]
    by_cases c1 : style = 1
    · obtain ⟨p, om3, e3, h3, p0, p1⟩ := pick1 h2 (m := top + 1) (by omega) (by omega)
      obtain ⟨q, om4, e4, h4, q0, q1⟩ := pick1 h3 (m := top + 1) (by omega) (by omega)
      obtain ⟨r, om5, e5, h5, r0, r1⟩ := pick1 h4 (m := 2) (by decide) (by decide)
      by_cases cr : r = 0
      · refine ⟨p, q, p, q, om5, ?_, h5, ⟨by omega, by omega⟩, ⟨by omega, by omega⟩, ⟨by omega, by omega⟩, ⟨by omega, by omega⟩⟩
        simp [law_e_draw_2, law_e_draw_2t_0, law_e_draw_2t_1, law_e_draw_2t_2, law_e_draw_2t_3, c1, e3, e4, e5, cr, two]
      · obtain ⟨v, om6, e6, h6, v0, v1⟩ := pick1 h5 (m := top + 1) (by omega) (by omega)
        obtain ⟨i, om7, e7, h7, i0, i1⟩ := pick1 h6 (m := 2) (by decide) (by decide)
        have hi : i = 0 ∨ i = 1 := by omega
        rcases hi with rfl | rfl
        · refine ⟨p, q, v, q, om7, ?_, h7, ⟨by omega, by omega⟩, ⟨by omega, by omega⟩, ⟨by omega, by omega⟩, ⟨by omega, by omega⟩⟩
          have k : ixNat 2 0 = some 0 := rfl
          simp [law_e_draw_2, law_e_draw_2t_0, law_e_draw_2t_1, law_e_draw_2t_2, law_e_draw_2t_2t, law_e_draw_2t_3, c1, e3, e4, e5, cr, e6, e7, two, k]
        · refine ⟨p, q, p, v, om7, ?_, h7, ⟨by omega, by omega⟩, ⟨by omega, by omega⟩, ⟨by omega, by omega⟩, ⟨by omega, by omega⟩⟩
          have k : ixNat 2 1 = some 1 := rfl
          simp [law_e_draw_2, law_e_draw_2t_0, law_e_draw_2t_1, law_e_draw_2t_2, law_e_draw_2t_2t, law_e_draw_2t_3, c1, e3, e4, e5, cr, e6, e7, two, k]
    · have d2 : law_e_draw_2 ⟨dr (sD pre) none none none none (some (.sh (.int style))) (some (.sh (.int top))) none none, om2⟩ = .nx ⟨dr (sD pre) none none none none (some (.sh (.int style))) (some (.sh (.int top))) none none, om2⟩ := by simp [law_e_draw_2, c1]
      simp only [x_seq, d2, o_nx]
      obtain ⟨x, om3, e3, h3, hx⟩ := one_int h2 (xs := [2, top / 2 - 1]) (by simp) (by simp)
      simp only [List.mem_cons, List.mem_nil_iff, or_false] at hx
      simp only [intsD, List.map_cons, List.map_nil] at e3
      have hx2 : 2 ≤ x ∧ x + 1 ≤ top / 2 := by omega
      obtain ⟨t, om4, e4, h4, t1, t2⟩ := within_ok h3 (lo := 1) (hi := x) (pow9000 (k := 10) (by omega)) (by omega)
      have s3 : law_e_draw_3 ⟨dr (sD pre) none none none none (some (.sh (.int style))) (some (.sh (.int top))) none none, om2⟩ = .nx ⟨dr (sD pre) (some (.sh (.int t))) none none none (some (.sh (.int style))) (some (.sh (.int top))) none none, om4⟩ := by simp [law_e_draw_3, e3, e4]
      have hq : 1 ≤ top / (t + 1) := by
        rw [Int.le_ediv_iff_mul_le (by omega)]
        omega
      have hq2 : top / (t + 1) ≤ top := Int.ediv_le_self _ (by omega)
      obtain ⟨st, om5, e5, h5, st1, st2⟩ := within_ok h4 (lo := 1) (hi := top / (t + 1)) (pow9000 (k := 10) (by omega)) hq
      have hQ : (t + 1) * st ≤ top := by
        have h1 := Int.mul_ediv_self_le (x := top) (k := t + 1) (by omega)
        have h2 : (t + 1) * st ≤ (t + 1) * (top / (t + 1)) := Int.mul_le_mul_of_nonneg_left st2 (by omega)
        omega
      have hP : 0 ≤ t * st := Int.mul_nonneg (by omega) (by omega)
      have eQ : (t + 1) * st = t * st + st := by rw [Int.add_mul, Int.one_mul]
      have s4 : law_e_draw_4 ⟨dr (sD pre) (some (.sh (.int t))) none none none (some (.sh (.int style))) (some (.sh (.int top))) none none, om4⟩ = .nx ⟨dr (sD pre) (some (.sh (.int t))) (some (.sh (.int st))) none none (some (.sh (.int style))) (some (.sh (.int top))) none none, om5⟩ := by
        simp [law_e_draw_4, e5, show 0 < t + 1 by omega, show (t + 1).natAbs < 2 ^ 64 by omega]
      have m1 : oMul (.int t) (.int st) = some (.sh (.int (t * st))) := v_mul_r (by omega)
      have m2 : oMul (.int (t + 1)) (.int st) = some (.sh (.int ((t + 1) * st))) := v_mul_r (by omega)
      obtain ⟨P, hPe⟩ : ∃ P, P = t * st := ⟨_, rfl⟩
      obtain ⟨Q, hQe⟩ : ∃ Q, Q = (t + 1) * st := ⟨_, rfl⟩
      rw [← hPe] at m1 hP eQ
      rw [← hQe] at m2 hQ eQ
      obtain ⟨u, om6, e6, h6, u0, u1⟩ := pick1 h5 (m := top - P + 1) (by omega) (by omega)
      obtain ⟨v, om7, e7, h7, v0, v1⟩ := pick1 h6 (m := top - Q + 1) (by omega) (by omega)
      have s5 : law_e_draw_5 ⟨dr (sD pre) (some (.sh (.int t))) (some (.sh (.int st))) none none (some (.sh (.int style))) (some (.sh (.int top))) none none, om5⟩ = .nx ⟨dr (sD pre) (some (.sh (.int t))) (some (.sh (.int st))) (some (.ow [.int u, .int v])) none (some (.sh (.int style))) (some (.sh (.int top))) none none, om7⟩ := by
        simp [law_e_draw_5, m1, m2, e6, e7]
      have s6 : law_e_draw_6 ⟨dr (sD pre) (some (.sh (.int t))) (some (.sh (.int st))) (some (.ow [.int u, .int v])) none (some (.sh (.int style))) (some (.sh (.int top))) none none, om7⟩ = .nx ⟨dr (sD pre) (some (.sh (.int t))) (some (.sh (.int st))) (some (.sh (two u v))) (some (.ow [.int (u + P), .int (v + Q)])) (some (.sh (.int style))) (some (.sh (.int top))) none none, om7⟩ := by
        simp [law_e_draw_6, m1, m2, two]
      have s7 : ∃ (w : Int) (om8 : List Cell), law_e_draw_7 ⟨dr (sD pre) (some (.sh (.int t))) (some (.sh (.int st))) (some (.sh (two u v))) (some (.ow [.int (u + P), .int (v + Q)])) (some (.sh (.int style))) (some (.sh (.int top))) none none, om7⟩ = .nx ⟨dr (sD pre) (some (.sh (.int t))) (some (.sh (.int st))) (some (.sh (two u v))) (some (.ow [.int (u + P), .int w])) (some (.sh (.int style))) (some (.sh (.int top))) none none, om8⟩ ∧ Src pre om8 rest ∧ In60 w := by
        by_cases c5 : style = 5
        · obtain ⟨w, om8, e8, h8, w0, w1⟩ := pick1 h7 (m := top + 1) (by omega) (by omega)
          have k : ixNat 2 1 = some 1 := rfl
          exact ⟨w, om8, by simp [law_e_draw_7, law_e_draw_7t, c5, e8, k], h8, by omega, by omega⟩
        · exact ⟨v + Q, om7, by simp [law_e_draw_7, c5], h7, by omega, by omega⟩
      obtain ⟨w, om8, s7, h8, hw⟩ := s7
      obtain ⟨r, om9, e9, h9, r0, r1⟩ := pick1 h8 (m := 2) (by decide) (by decide)
      obtain ⟨r', om10, e10, h10, r0', r1'⟩ := pick1 h9 (m := 2) (by decide) (by decide)
      have iu : In60 u := ⟨by omega, by omega⟩
      have iv : In60 v := ⟨by omega, by omega⟩
      have ip : In60 (u + P) := ⟨by omega, by omega⟩
      simp only [x_seq, s3, s4, s5, s6, s7, o_nx]
      by_cases cr : r = 0
      · by_cases cr' : r' = 0
        · refine ⟨u + P, w, u, v, om10, ?_, h10, ip, hw, iu, iv⟩
          simp [law_e_draw_8, law_e_draw_9, law_e_draw_10, e9, e10, cr, cr', two]
        · refine ⟨w, u + P, v, u, om10, ?_, h10, hw, ip, iv, iu⟩
          simp [law_e_draw_8, law_e_draw_9, law_e_draw_9t, law_e_draw_10, e9, e10, cr, cr', two]
      · by_cases cr' : r' = 0
        · refine ⟨u, v, u + P, w, om10, ?_, h10, iu, iv, ip, hw⟩
          simp [law_e_draw_8, law_e_draw_9, law_e_draw_10, e9, e10, cr, cr', two]
        · refine ⟨v, u, w, u + P, om10, ?_, h10, iv, iu, hw, ip⟩
          simp [law_e_draw_8, law_e_draw_9, law_e_draw_9t, law_e_draw_10, e9, e10, cr, cr', two]
end
end Mini.K28

set_option linter.all false
set_option maxRecDepth 100000
/-! printed by mkL.py: pieces of M_k28.lean, then L_k28h.body -/
namespace Mini.K28
open Mini Mini.LibT Mini.LibR PySem
open Mini.Lib (rangeD_succ perm_out for_all for_inv comp_filter comp_map)
def law_e_refusals_0 : EvS := (sSet 3 (eCall F_law_pick (aCons (eVar 0) (aCons (eInt 2) aNil))))
def law_e_refusals_1 : EvS := (sPar [5, 6] [(eB bList (aCons (eVar 1) aNil)), (eB bList (aCons (eVar 2) aNil))])
def law_e_refusals_2 : EvS := (sIxPut2 5 (eVar 3) 6 (eVar 3) (eTup (aCons (eOp1 oNeg (eInt 1)) (aCons (eInt 61) aNil))))
def law_e_refusals_3 : EvS := (sSet 4 (eLst (aCons (eTup (aCons (eVar 5) (aCons (eVar 2) (aCons (eTup (aCons (eStr "BadRoutes") (aCons (eStr "below") aNil))) aNil)))) (aCons (eTup (aCons (eVar 1) (aCons (eVar 6) (aCons (eTup (aCons (eStr "TooMany") aNil)) aNil)))) (aCons (eTup (aCons (eOp oAdd (eVar 1) (eLst (aCons (eInt 0) aNil))) (aCons (eOp oAdd (eVar 2) (eLst (aCons (eInt 0) aNil))) (aCons (eTup (aCons (eStr "BadRoutes") (aCons (eStr "size") aNil))) aNil)))) aNil)))))
def law_e_refusals_4 : EvS := (sSet 4 (eOp oAdd (eVar 4) (eLst (aCons (eTup (aCons (eSlL (eVar 1) pNone (pSome (eInt 1))) (aCons (eSlL (eVar 2) pNone (pSome (eInt 1))) (aCons (eTup (aCons (eStr "BadRoutes") (aCons (eStr "size") aNil))) aNil)))) (aCons (eTup (aCons (eVar 1) (aCons (eSlL (eVar 2) pNone (pSome (eInt 1))) (aCons (eTup (aCons (eStr "BadRoutes") (aCons (eStr "size") aNil))) aNil)))) (aCons (eTup (aCons (eLst (aCons (eInt 0) (aCons (eInt 60) aNil))) (aCons (eLst (aCons (eInt 60) (aCons (eInt 0) aNil))) (aCons (eTup (aCons (eStr "let") aNil)) aNil)))) aNil))))))
def law_e_refusals_5bt : EvS := (sRet (eC (.bl false)))
def law_e_refusals_5b (P0 : Nat) : EvS := (sIf (tBl (eOp oNe (eRaised [(P0, "_law_e_refusals.<locals>.<lambda>")] (eCall F_two_routes (aCons (eVar 7) (aCons (eVar 8) aNil))) (ffOf SUB "other" CLS) (.tup [.str "let"])) (eVar 9))) law_e_refusals_5bt sPass)
def law_e_refusals_5 (P0 : Nat) : EvS := (sFor (iAny (eVar 4)) (gTp (gMore (gNm 7) (gMore (gNm 8) (gMore (gNm 9) gNone)))) (law_e_refusals_5b P0))
def law_e_refusals_6 (P0 : Nat) : EvS := (sRet (eOp oEq (eRaised [(P0, "_law_e_refusals.<locals>.<lambda>")] (eCall F_route_lag (aCons (eLst aNil) aNil)) (ffOf SUB "other" CLS) (.tup [.str "let"])) (eTup (aCons (eStr "BadRoutes") (aCons (eStr "size") aNil)))))
theorem law_e_refusals_eq (P0 : Nat) : F_law_e_refusals P0 = runDef 10 (sSeq law_e_refusals_0 (sSeq law_e_refusals_1 (sSeq law_e_refusals_2 (sSeq law_e_refusals_3 (sSeq law_e_refusals_4 (sSeq (law_e_refusals_5 P0) (law_e_refusals_6 P0))))))) := rfl
def law_0 : EvS := (sSet 1 (eCall F_law_source (aCons (eVar 0) (aCons (eInt 0) aNil))))
def law_1 : EvS := (sGet (gTp (gMore (gNm 4) (gMore (gNm 5) gNone))) (eCall F_law_e_draw (aCons (eVar 1) aNil)))
def law_2 : EvS := (sGet (gTp (gMore (gNm 6) (gMore (gNm 7) gNone))) (eCall F_law_e_draw (aCons (eVar 1) aNil)))
def law_3t : EvS := (sRet (eC (.bl false)))
def law_3 : EvS := (sIf (tNot (tTru (eCall F_law_e_answers (aCons (eVar 4) (aCons (eVar 5) aNil))))) law_3t sPass)
def law_4t : EvS := (sRet (eC (.bl false)))
def law_4 : EvS := (sIf (tNot (tTru (eCall F_law_e_answers (aCons (eVar 6) (aCons (eVar 7) aNil))))) law_4t sPass)
def law_5_c0 : EvE := (eComp (iRange1 (aCons (eCall F_law_within (aCons (eVar 1) (aCons (eInt 1) (aCons (eInt 6) aNil)))) aNil)) (gNm 8) tYes (eTup (aCons (eCall F_law_pick (aCons (eVar 1) (aCons (eInt 2) aNil))) (aCons (eCall F_law_pick (aCons (eVar 1) (aCons (eInt 61) aNil))) aNil))) [8])
def law_5 : EvS := (sSet 2 law_5_c0)
def law_6_c0 : EvE := (eComp (iAny (eVar 2)) (gNm 9) tYes (eOp oIx (eVar 9) (eInt 1)) [9])
def law_6 : EvS := (sSet 3 law_6_c0)
def law_7t : EvS := (sRet (eC (.bl false)))
def law_7 : EvS := (sIf (tNot (tTru (eCall F_law_same_2 (aCons (eCall F_route_lag (aCons (eVar 2) aNil)) (aCons (eTup (aCons (eB bMaxL (aCons (eVar 3) aNil)) (aCons (eOp oAdd (eOp oSub (eB bMaxL (aCons (eVar 3) aNil)) (eB bMinL (aCons (eVar 3) aNil))) (eInt 1)) aNil))) aNil))))) law_7t sPass)
def law_8 (P0 : Nat) : EvS := (sRet (eCall (F_law_e_refusals P0) (aCons (eVar 1) (aCons (eVar 4) (aCons (eVar 5) aNil)))))
theorem law_eq (P0 : Nat) : F_law P0 = runDef 10 (sSeq law_0 (sSeq law_1 (sSeq law_2 (sSeq law_3 (sSeq law_4 (sSeq law_5 (sSeq law_6 (sSeq law_7 (law_8 P0))))))))) := rfl
/-! ### refusals -/
abbrev rf (a0 a1 a2 a3 a4 a5 a6 a7 a8 a9 : Option Vl) : List (Option Vl) := [a0, a1, a2, a3, a4, a5, a6, a7, a8, a9]
abbrev Row := List Int × List Int × D
def rowE (r : Row) : D := .tup [.lst (intsD r.1), .lst (intsD r.2.1), r.2.2]
def tmD : D := .tup [.str "TooMany"]
def badD (z : Str) : D := .tup [.str "BadRoutes", .str z]
def letD : D := .tup [.str "let"]
/-- what is due for a row -/
def Due (r : Row) : Prop := ∀ om, (∃ v, F_two_routes [.lst (intsD r.1), .lst (intsD r.2.1)] om = .ok v om ∧ r.2.2 = letD) ∨ (∃ z, F_two_routes [.lst (intsD r.1), .lst (intsD r.2.1)] om = .ex (tooMany z) om ∧ r.2.2 = tmD) ∨ ∃ z, F_two_routes [.lst (intsD r.1), .lst (intsD r.2.1)] om = .ex (bad z) om ∧ r.2.2 = badD z ∧ strFine z = true
theorem ff_tm (z : Str) : ffOf SUB "other" CLS (tooMany z) = some tmD := by
  simp [ffOf, CLS, SUB, tmD]
theorem ff_bad (z : Str) : ffOf SUB "other" CLS (bad z) = some (badD z) := by
  have h1 : SUB "BadRoutes" "TooMany" = false := by decide
  have h2 : SUB "BadRoutes" "BadRoutes" = true := by decide
  simp [ffOf, CLS, h1, h2, badD, List.lookup]
theorem bad_fine {z : Str} (f : strFine z = true) : (badD z).fine deep = true := by
  simp [badD, D.fine, f]; decide +kernel
theorem due_fine {r : Row} (h : Due r) : r.2.2.fine deep = true := by
  rcases h [] with ⟨_, _, e⟩ | ⟨z, _, e⟩ | ⟨z, _, e, f⟩ <;> rw [e]
  · decide +kernel
  · decide +kernel
  · exact bad_fine f
theorem ne_self {x : D} (h : x.fine deep = true) : oNe x x = some (.sh (.bl false)) := by
  rw [v_ne h h, eq_rfl _ _ h]; rfl
theorem eq_self {x : D} (h : x.fine deep = true) : oEq x x = some (.sh (.bl true)) := by
  rw [v_eq h h, eq_rfl _ _ h]
section
variable (P0 : Nat) {om : List Cell} (ht : tabsOf om = [(P0, ("_law_e_refusals.<locals>.<lambda>" : Str))]) {a0 a1 a2 a3 a4 a5 a6 : Option Vl}
include ht in
theorem row_ok (r : Row) (h : Due r) : law_e_refusals_5b P0 ⟨rf a0 a1 a2 a3 a4 a5 a6 (some (.sh (.lst (intsD r.1)))) (some (.sh (.lst (intsD r.2.1)))) (some (.sh r.2.2)), om⟩ = .nx ⟨rf a0 a1 a2 a3 a4 a5 a6 (some (.sh (.lst (intsD r.1)))) (some (.sh (.lst (intsD r.2.1)))) (some (.sh r.2.2)), om⟩ := by
  have nf := ne_self (due_fine h)
  have h := h om
  obtain ⟨o, p, d⟩ := r
  simp only at nf h ⊢
  obtain ⟨A, hA⟩ : ∃ A, A = intsD o := ⟨_, rfl⟩
  obtain ⟨B, hB⟩ : ∃ B, B = intsD p := ⟨_, rfl⟩
  rw [← hA, ← hB] at h ⊢
  rcases h with ⟨v, e, hd⟩ | ⟨z, e, hd⟩ | ⟨z, e, hd, _⟩ <;> subst hd
  · rw [letD] at nf ⊢
    simp [law_e_refusals_5b, ht, e, nf]
  · have f := ff_tm z
    simp [law_e_refusals_5b, ht, e, f, nf]
  · have f := ff_bad z
    simp [law_e_refusals_5b, ht, e, f, nf]
include ht in
theorem rows_ok : ∀ (R : List Row) (a7 a8 a9 : Option Vl), (∀ r ∈ R, Due r) → ∃ a7' a8' a9', forGo (gTp (gMore (gNm 7) (gMore (gNm 8) (gMore (gNm 9) gNone)))) (law_e_refusals_5b P0) (R.map rowE) ⟨rf a0 a1 a2 a3 a4 a5 a6 a7 a8 a9, om⟩ = .nx ⟨rf a0 a1 a2 a3 a4 a5 a6 a7' a8' a9', om⟩
  | [], a7, a8, a9, _ => ⟨a7, a8, a9, rfl⟩
  | r :: R, a7, a8, a9, h => by
    have h1 := h r (by simp)
    obtain ⟨b7, b8, b9, e⟩ := rows_ok R (some (.sh (.lst (intsD r.1)))) (some (.sh (.lst (intsD r.2.1)))) (some (.sh r.2.2)) fun q hq => h q (by simp [hq])
    refine ⟨b7, b8, b9, ?_⟩
    have g : gTp (gMore (gNm 7) (gMore (gNm 8) (gMore (gNm 9) gNone))) (rowE r) ⟨rf a0 a1 a2 a3 a4 a5 a6 a7 a8 a9, om⟩ = some ⟨rf a0 a1 a2 a3 a4 a5 a6 (some (.sh (.lst (intsD r.1)))) (some (.sh (.lst (intsD r.2.1)))) (some (.sh r.2.2)), om⟩ := rfl
    have k := row_ok P0 ht (a0 := a0) (a1 := a1) (a2 := a2) (a3 := a3) (a4 := a4) (a5 := a5) (a6 := a6) r h1
    rw [List.map_cons, x_forCons, g]
    simp only [k, e]
end
theorem err_due {a b : List Int} (ha : a.length ≤ 1000) (hb : b.length ≤ 1000) {z : Str} (h : latesErr [a, b] 0 = some (bad z)) (f : strFine z = true) : Due (a, b, badD z) := fun om => .inr (.inr ⟨z, two_ex ha hb h om, rfl, f⟩)
theorem tm_due {a b : List Int} (ha : a.length ≤ 1000) (hb : b.length ≤ 1000) {z : Str} (h : latesErr [a, b] 0 = some (tooMany z)) : Due (a, b, tmD) := fun om => .inr (.inl ⟨z, two_ex ha hb h om, rfl⟩)
theorem size_due {a b : List Int} (ha : a.length ≤ 1000) (hb : b.length ≤ 1000) (h : latesErr [a, b] 0 = none) (h2 : a.length ≠ 2) : Due (a, b, badD "size") := fun om => .inr (.inr ⟨_, two_size ha hb h h2 om, rfl, by decide +kernel⟩)
theorem cut_to1 {α : Type} (x y : α) : cutD [x, y] none (some 1) = [x] := by
  first
    | rfl
    | decide
theorem mem2 {x y : Int} {p : Int → Prop} (hx : p x) (hy : p y) : ∀ z ∈ [x, y], p z := by
  intro z hz
  simp only [List.mem_cons, List.mem_nil_iff, or_false] at hz
  rcases hz with rfl | rfl <;> assumption
theorem ref_ok (P0 : Nat) {pre om : List Cell} {rest : List Cell} (h : Src pre om rest) (hp : tabsOf pre = [(P0, ("_law_e_refusals.<locals>.<lambda>" : Str))]) (hr : tabsOf rest = []) {a0 a1 b0 b1 : Int} (ha0 : In60 a0) (ha1 : In60 a1) (hb0 : In60 b0) (hb1 : In60 b1) : ∃ om', F_law_e_refusals P0 [.cell (pre.length + 1), two a0 a1, two b0 b1] om = .ok (.sh (.bl true)) om' := by
  obtain ⟨at', om1, e1, h1, i0, i1⟩ := pick1 h (m := 2) (by decide) (by decide)
  have ht : tabsOf om1 = [(P0, ("_law_e_refusals.<locals>.<lambda>" : Str))] := by rw [Src.tabs h1 hr, hp]
  obtain ⟨l0, l1, f0, f1, hat⟩ : ∃ l0 l1 f0 f1 : Int, (at' = 0 ∧ l0 = -1 ∧ l1 = a1 ∧ f0 = 61 ∧ f1 = b1) ∨ (at' = 1 ∧ l0 = a0 ∧ l1 = -1 ∧ f0 = b0 ∧ f1 = 61) := by
    by_cases c : at' = 0
    · exact ⟨_, _, _, _, .inl ⟨c, rfl, rfl, rfl, rfl⟩⟩
    · exact ⟨_, _, _, _, .inr ⟨by omega, rfl, rfl, rfl, rfl⟩⟩
  unfold In60 at ha0 ha1 hb0 hb1
  have ss : strFine "size" = true := by decide +kernel
  have sb : strFine "below" = true := by decide +kernel
  have fA : Fine [a0, a1] := ⟨by simp, mem2 (by omega) (by omega)⟩
  have fB : Fine [b0, b1] := ⟨by simp, mem2 (by omega) (by omega)⟩
  let R : List Row := [([l0, l1], [b0, b1], badD "below"), ([a0, a1], [f0, f1], tmD), ([a0, a1, 0], [b0, b1, 0], badD "size"), ([a0], [b0], badD "size"), ([a0, a1], [b0], badD "size"), ([0, 60], [60, 0], letD)]
  have hR : ∀ r ∈ R, Due r := by
    intro r hr'
    simp only [R, List.mem_cons, List.mem_nil_iff, or_false] at hr'
    rcases hr' with rfl | rfl | rfl | rfl | rfl | rfl
    · refine err_due (by simp) (by simp) (err_low 0 ⟨by simp, mem2 (by omega) (by omega)⟩ fB (by simp) rfl (.inl ?_)) sb
      rcases hat with ⟨_, q, _⟩ | ⟨_, _, q, _⟩
      · exact ⟨l0, by simp, by omega⟩
      · exact ⟨l1, by simp, by omega⟩
    · obtain ⟨z, e⟩ := err_tm (a := [a0, a1]) (b := [f0, f1]) 0 (.inr (.inr (by
        rcases hat with ⟨_, _, _, q, _⟩ | ⟨_, _, _, _, q⟩
        · exact ⟨f0, by simp, by omega⟩
        · exact ⟨f1, by simp, by omega⟩)))
      exact tm_due (by simp) (by simp) e
    · refine size_due (by simp) (by simp) (err_none 0 ⟨by simp, ?_⟩ ⟨by simp, ?_⟩ (by simp) rfl ?_ ?_) (by simp) <;> intro x hx <;> simp only [List.mem_cons, List.mem_nil_iff, or_false] at hx <;> rcases hx with rfl | rfl | rfl <;> omega
    · refine size_due (by simp) (by simp) (err_none 0 ⟨by simp, ?_⟩ ⟨by simp, ?_⟩ (by simp) rfl ?_ ?_) (by simp) <;> intro x hx <;> simp only [List.mem_cons, List.mem_nil_iff, or_false] at hx <;> subst hx <;> omega
    · exact err_due (by simp) (by simp) (err_size 0 fA ⟨by simp, fun x hx => by simp only [List.mem_cons, List.mem_nil_iff, or_false] at hx; subst hx; omega⟩ (.inr (by simp))) ss
    · exact fun om => .inl ⟨_, two_ok (a0 := 0) (a1 := 60) (b0 := 60) (b1 := 0) (by decide) (by decide) (by decide) (by decide) om, rfl⟩
  have z0 : law_e_refusals_0 ⟨rf (sD pre) (some (.sh (two a0 a1))) (some (.sh (two b0 b1))) none none none none none none none, om⟩ = .nx ⟨rf (sD pre) (some (.sh (two a0 a1))) (some (.sh (two b0 b1))) (some (.sh (.int at'))) none none none none none none, om1⟩ := by simp [law_e_refusals_0, e1]
  have z1 : law_e_refusals_1 ⟨rf (sD pre) (some (.sh (two a0 a1))) (some (.sh (two b0 b1))) (some (.sh (.int at'))) none none none none none none, om1⟩ = .nx ⟨rf (sD pre) (some (.sh (two a0 a1))) (some (.sh (two b0 b1))) (some (.sh (.int at'))) none (some (.ow [.int a0, .int a1])) (some (.ow [.int b0, .int b1])) none none none, om1⟩ := by simp [law_e_refusals_1, two]
  have z2 : law_e_refusals_2 ⟨rf (sD pre) (some (.sh (two a0 a1))) (some (.sh (two b0 b1))) (some (.sh (.int at'))) none (some (.ow [.int a0, .int a1])) (some (.ow [.int b0, .int b1])) none none none, om1⟩ = .nx ⟨rf (sD pre) (some (.sh (two a0 a1))) (some (.sh (two b0 b1))) (some (.sh (.int at'))) none (some (.ow [.int l0, .int l1])) (some (.ow [.int f0, .int f1])) none none none, om1⟩ := by
    have k0 : ixNat 2 0 = some 0 := rfl
    have k1 : ixNat 2 1 = some 1 := rfl
    rcases hat with ⟨rfl, rfl, rfl, rfl, rfl⟩ | ⟨rfl, rfl, rfl, rfl, rfl⟩
    · simp [law_e_refusals_2, k0]
    · simp [law_e_refusals_2, k1]
  obtain ⟨RR, hRR⟩ : ∃ RR, RR = R.map rowE := ⟨_, rfl⟩
  have z34 : (sSeq law_e_refusals_3 law_e_refusals_4) ⟨rf (sD pre) (some (.sh (two a0 a1))) (some (.sh (two b0 b1))) (some (.sh (.int at'))) none (some (.ow [.int l0, .int l1])) (some (.ow [.int f0, .int f1])) none none none, om1⟩ = .nx ⟨rf (sD pre) (some (.sh (two a0 a1))) (some (.sh (two b0 b1))) (some (.sh (.int at'))) (some (.ow RR)) (some (.sh (.lst [.int l0, .int l1]))) (some (.sh (.lst [.int f0, .int f1]))) none none none, om1⟩ := by
    rw [hRR]
    simp [law_e_refusals_3, law_e_refusals_4, two, R, rowE, tmD, badD, letD, cut_to1]
  obtain ⟨b7, b8, b9, e5⟩ := rows_ok P0 ht (a0 := sD pre) (a1 := some (.sh (two a0 a1))) (a2 := some (.sh (two b0 b1))) (a3 := some (.sh (.int at'))) (a4 := some (.sh (.lst RR))) (a5 := some (.sh (.lst [.int l0, .int l1]))) (a6 := some (.sh (.lst [.int f0, .int f1]))) R none none none hR
  rw [← hRR] at e5
  have z5 : law_e_refusals_5 P0 ⟨rf (sD pre) (some (.sh (two a0 a1))) (some (.sh (two b0 b1))) (some (.sh (.int at'))) (some (.ow RR)) (some (.sh (.lst [.int l0, .int l1]))) (some (.sh (.lst [.int f0, .int f1]))) none none none, om1⟩ = .nx ⟨rf (sD pre) (some (.sh (two a0 a1))) (some (.sh (two b0 b1))) (some (.sh (.int at'))) (some (.sh (.lst RR))) (some (.sh (.lst [.int l0, .int l1]))) (some (.sh (.lst [.int f0, .int f1]))) b7 b8 b9, om1⟩ := by
    rw [← e5]
    simp [law_e_refusals_5]
  have z : F_law_e_refusals P0 [.cell (pre.length + 1), two a0 a1, two b0 b1] om = ((sSeq law_e_refusals_0 (sSeq law_e_refusals_1 (sSeq law_e_refusals_2 (sSeq law_e_refusals_3 (sSeq law_e_refusals_4 (sSeq (law_e_refusals_5 P0) (law_e_refusals_6 P0))))))) ⟨rf (sD pre) (some (.sh (two a0 a1))) (some (.sh (two b0 b1))) none none none none none none none, om⟩).toF := rfl
  refine ⟨om1, ?_⟩
  rw [x_seq] at z34
  rw [z]
  simp only [x_seq, z0, z1, z2, o_nx]
  have assoc : ∀ (o : O) (p q : EvS), (o.seq (sSeq p q)) = (o.seq p).seq q := by
    intro o p q
    cases o <;> rfl
  rw [assoc, z34, o_nx, x_seq, z5, o_nx]
  have lg := lag_nil om1
  have f := ff_bad "size"
  have es := eq_self (bad_fine ss)
  rw [badD] at f es
  simp [law_e_refusals_6, ht, lg, f, es]
/-! ### the law -/
theorem src_noLst {pre om rest : List Cell} (h : Src pre om rest) (h1 : pre.all Cell.noLst = true) (h2 : rest.all Cell.noLst = true) : om.all Cell.noLst = true := by
  obtain ⟨l, n, s, t, rfl, hl⟩ := h
  have e : D.noLsts (l.map .int) = true := by
    clear hl
    induction l with
    | nil => rfl
    | cons x l ih => rw [List.map_cons, D.noLsts, ih]; rfl
  unfold srcM
  rw [List.all_append, List.all_cons, List.all_cons, h1, h2]
  simp [Cell.noLst, e, srcD, D.noLst]
abbrev lw (a0 a1 a2 a3 a4 a5 a6 a7 a8 a9 : Option Vl) : List (Option Vl) := [a0, a1, a2, a3, a4, a5, a6, a7, a8, a9]
theorem pts_of {α : Type} : ∀ {ys : List α} {ds : List D}, ds.length = ys.length → (∀ (i : Nat) (y : α) (d : D), ys[i]? = some y → ds[i]? = some d → ∃ x : Pt, d = pd x) → ∃ a : List Pt, ds = a.map pd ∧ a.length = ys.length
  | [], [], _, _ => ⟨[], rfl, rfl⟩
  | y :: ys, d :: ds, hl, h => by
    obtain ⟨x, rfl⟩ := h 0 y d rfl rfl
    obtain ⟨a, rfl, h2⟩ := pts_of (ys := ys) (ds := ds) (by simpa using hl) fun i y d h1 h2 => h (i + 1) y d (by simpa using h1) (by simpa using h2)
    exact ⟨x :: a, rfl, by simp [h2]⟩
theorem law_true (P0 : Nat) (ns : List Int) (hl : ns.length ≤ 63) : ∃ om, F_law P0 [.scr ns] (([(P0, ("_law_e_refusals.<locals>.<lambda>" : Str))]).map fun p => Cell.tab p.1 p.2) = .ok (.sh (.bl true)) om := by
  obtain ⟨pre, hpre⟩ : ∃ pre, pre = [Cell.tab P0 "_law_e_refusals.<locals>.<lambda>"] := ⟨_, rfl⟩
  have hp : tabsOf pre = [(P0, ("_law_e_refusals.<locals>.<lambda>" : Str))] := by rw [hpre]; rfl
  have hpn : pre.all Cell.noLst = true := by rw [hpre]; rfl
  have z : F_law P0 [.scr ns] (([(P0, ("_law_e_refusals.<locals>.<lambda>" : Str))]).map fun p => Cell.tab p.1 p.2) = ((sSeq law_0 (sSeq law_1 (sSeq law_2 (sSeq law_3 (sSeq law_4 (sSeq law_5 (sSeq law_6 (sSeq law_7 (law_8 P0))))))))) ⟨lw (some (.sh (.scr ns))) none none none none none none none none none, pre⟩).toF := by rw [hpre]; rfl
  rw [z]
  obtain ⟨om0, e0, h0⟩ := source_ok pre ns hl 0
  obtain ⟨a0, a1, b0, b1, om1, e1, h1, ha0, ha1, hb0, hb1⟩ := draw_ok h0
  obtain ⟨c0, c1, d0, d1, om2, e2, h2, hc0, hc1, hd0, hd1⟩ := draw_ok h1
  obtain ⟨r3, e3, q3⟩ := ans_ok ha0 ha1 hb0 hb1 om2 (src_noLst h2 hpn rfl)
  have h3 := Src.more h2 r3
  obtain ⟨r4, e4, q4⟩ := ans_ok hc0 hc1 hd0 hd1 (om2 ++ r3) (src_noLst h3 hpn (by simpa using q3.2))
  have h4 := Src.more h3 r4
  have q34 : Calm ([] ++ r3 ++ r4) := by simpa using q3.app q4
  obtain ⟨om4, hom4⟩ : ∃ m, m = om2 ++ r3 ++ r4 := ⟨_, rfl⟩
  obtain ⟨rs, hrs⟩ : ∃ m, m = [] ++ r3 ++ r4 := ⟨_, rfl⟩
  rw [← hom4, ← hrs] at h4
  rw [← hom4] at e4
  rw [← hrs] at q34
  obtain ⟨n, om5, e5, h5, n1, n6⟩ := within_ok h4 (lo := 1) (hi := 6) (pow9000 (k := 10) (by decide)) (by decide)
  have e3 : F_law_e_answers [two a0 a1, two b0 b1] om2 = _ := e3
  have e4 : F_law_e_answers [two c0 c1, two d0 d1] (om2 ++ r3) = _ := e4
  obtain ⟨om3, hom3⟩ : ∃ m, m = om2 ++ r3 := ⟨_, rfl⟩
  rw [← hom3] at e3 e4
  obtain ⟨X, hX⟩ : ∃ X, X = two a0 a1 := ⟨_, rfl⟩
  obtain ⟨Y, hY⟩ : ∃ X, X = two b0 b1 := ⟨_, rfl⟩
  obtain ⟨U, hU⟩ : ∃ X, X = two c0 c1 := ⟨_, rfl⟩
  obtain ⟨V, hV⟩ : ∃ X, X = two d0 d1 := ⟨_, rfl⟩
  rw [← hX, ← hY] at e1 e3
  rw [← hU, ← hV] at e2 e4
  have s0 : law_0 ⟨lw (some (.sh (.scr ns))) none none none none none none none none none, pre⟩ = .nx ⟨lw (some (.sh (.scr ns))) (sD pre) none none none none none none none none, om0⟩ := by simp [law_0, e0]
  have s1 : law_1 ⟨lw (some (.sh (.scr ns))) (sD pre) none none none none none none none none, om0⟩ = .nx ⟨lw (some (.sh (.scr ns))) (sD pre) none none (some (.sh X)) (some (.sh Y)) none none none none, om1⟩ := by simp [law_1, e1]
  have s2 : law_2 ⟨lw (some (.sh (.scr ns))) (sD pre) none none (some (.sh X)) (some (.sh Y)) none none none none, om1⟩ = .nx ⟨lw (some (.sh (.scr ns))) (sD pre) none none (some (.sh X)) (some (.sh Y)) (some (.sh U)) (some (.sh V)) none none, om2⟩ := by simp [law_2, e2]
  have s3 : law_3 ⟨lw (some (.sh (.scr ns))) (sD pre) none none (some (.sh X)) (some (.sh Y)) (some (.sh U)) (some (.sh V)) none none, om2⟩ = .nx ⟨lw (some (.sh (.scr ns))) (sD pre) none none (some (.sh X)) (some (.sh Y)) (some (.sh U)) (some (.sh V)) none none, om3⟩ := by simp [law_3, e3]
  have s4 : law_4 ⟨lw (some (.sh (.scr ns))) (sD pre) none none (some (.sh X)) (some (.sh Y)) (some (.sh U)) (some (.sh V)) none none, om3⟩ = .nx ⟨lw (some (.sh (.scr ns))) (sD pre) none none (some (.sh X)) (some (.sh Y)) (some (.sh U)) (some (.sh V)) none none, om4⟩ := by simp [law_4, e4]
  obtain ⟨N, rfl⟩ := Int.eq_ofNat_of_zero_le (show 0 ≤ n by omega)
  obtain ⟨ds, om6, e6, h6, l6, v6⟩ := comp_draw (it := iRange1 (aCons (eC (.int N)) aNil)) (g := gNm 8) (e := eTup (aCons (eCall F_law_pick (aCons (eVar 1) (aCons (eInt 2) aNil))) (aCons (eCall F_law_pick (aCons (eVar 1) (aCons (eInt 61) aNil))) aNil))) (vs := [8]) (env := lw (some (.sh (.scr ns))) (sD pre) none none (some (.sh X)) (some (.sh Y)) (some (.sh U)) (some (.sh V)) none none) (om := om5)
    (fun j : Nat => D.int (0 + (j : Int))) (fun _ d => ∃ p : Pt, d = pd p) (fun om => Src pre om rs) (List.range N) (by simp [rangeD, show (N : Int) < 4000000000000000000 by omega, show (-4000000000000000000 : Int) ≤ (N : Int) by omega]) h5 (by simp) (by rw [List.length_range]; omega) (fun y _ om h => by
      obtain ⟨p, om', f1, g1, _, _⟩ := pick1 h (m := 2) (by decide) (by decide)
      obtain ⟨q, om'', f2, g2, _, _⟩ := pick1 g1 (m := 61) (by decide) (by decide)
      refine ⟨⟨lw (some (.sh (.scr ns))) (sD pre) none none (some (.sh X)) (some (.sh Y)) (some (.sh U)) (some (.sh V)) (some (.sh (.int (0 + (y : Int))))) none, om⟩, .sh (pd (p, q)), ⟨lw (some (.sh (.scr ns))) (sD pre) none none (some (.sh X)) (some (.sh Y)) (some (.sh U)) (some (.sh V)) (some (.sh (.int (0 + (y : Int))))) none, om''⟩, rfl, ?_, ⟨_, rfl⟩, rfl, g2⟩
      simp [f1, f2, pd]) (by simp)
  obtain ⟨ps, rfl, lps⟩ := pts_of l6 v6
  rw [List.length_range] at lps
  have pne : ps ≠ [] := fun z => by rw [z] at lps; simp at lps; omega
  have c5 : law_5_c0 ⟨lw (some (.sh (.scr ns))) (sD pre) none none (some (.sh X)) (some (.sh Y)) (some (.sh U)) (some (.sh V)) none none, om4⟩ = .ok (.ow (ps.map pd)) ⟨lw (some (.sh (.scr ns))) (sD pre) none none (some (.sh X)) (some (.sh Y)) (some (.sh U)) (some (.sh V)) none none, om6⟩ := by
    rw [← e6]
    unfold law_5_c0
    rw [x_comp, x_comp]
    have i1 : iRange1 (aCons (eCall F_law_within (aCons (eVar 1) (aCons (eInt 1) (aCons (eInt 6) aNil)))) aNil) ⟨lw (some (.sh (.scr ns))) (sD pre) none none (some (.sh X)) (some (.sh Y)) (some (.sh U)) (some (.sh V)) none none, om4⟩ = iRange1 (aCons (eC (.int N)) aNil) ⟨lw (some (.sh (.scr ns))) (sD pre) none none (some (.sh X)) (some (.sh Y)) (some (.sh U)) (some (.sh V)) none none, om5⟩ := by
      simp [e5]
    rw [i1]
  have c6 := comp_eval (it := iAny (eVar 2)) (g := gNm 9) (e := eOp oIx (eVar 9) (eInt 1)) (vs := [9]) (st := ⟨lw (some (.sh (.scr ns))) (sD pre) (some (.sh (.lst (ps.map pd)))) none (some (.sh X)) (some (.sh Y)) (some (.sh U)) (some (.sh V)) none none, om6⟩) pd (fun p : Pt => .int p.2) ps (by simp) (by simp) (by omega)
    (fun p _ => ⟨⟨lw (some (.sh (.scr ns))) (sD pre) (some (.sh (.lst (ps.map pd)))) none (some (.sh X)) (some (.sh Y)) (some (.sh U)) (some (.sh V)) none (some (.sh (pd p))), om6⟩, .sh (.int p.2), ⟨lw (some (.sh (.scr ns))) (sD pre) (some (.sh (.lst (ps.map pd)))) none (some (.sh X)) (some (.sh Y)) (some (.sh U)) (some (.sh V)) none (some (.sh (pd p))), om6⟩, rfl, by simp [pd], rfl, rfl, rfl⟩) (by simp)
  have eb : ps.map (fun p : Pt => D.int p.2) = intsD (beats ps) := by simp [beats, intsD]
  rw [eb] at c6
  obtain ⟨bx, hbx, _⟩ := bmax_ints (beats_ne pne)
  obtain ⟨bn, hbn, _⟩ := bmin_ints (beats_ne pne)
  have lag := lag_ok pne (by omega) hbx hbn om6
  have sT : F_law_same_2 [lagD bx bn, lagD bx bn] om6 = _ := same2_tup [bx, bx - bn + 1] (by simp) om6
  obtain ⟨LD, hLD⟩ : ∃ L, L = ps.map pd := ⟨_, rfl⟩
  obtain ⟨BD, hBD⟩ : ∃ L, L = intsD (beats ps) := ⟨_, rfl⟩
  rw [← hLD] at c5 c6 lag
  rw [← hBD] at c6 hbx hbn
  have s5 : law_5 ⟨lw (some (.sh (.scr ns))) (sD pre) none none (some (.sh X)) (some (.sh Y)) (some (.sh U)) (some (.sh V)) none none, om4⟩ = .nx ⟨lw (some (.sh (.scr ns))) (sD pre) (some (.ow LD)) none (some (.sh X)) (some (.sh Y)) (some (.sh U)) (some (.sh V)) none none, om6⟩ := by simp [law_5, c5]
  have c6' : law_6_c0 ⟨lw (some (.sh (.scr ns))) (sD pre) (some (.ow LD)) none (some (.sh X)) (some (.sh Y)) (some (.sh U)) (some (.sh V)) none none, om6⟩ = .ok (.ow BD) ⟨lw (some (.sh (.scr ns))) (sD pre) (some (.sh (.lst LD))) none (some (.sh X)) (some (.sh Y)) (some (.sh U)) (some (.sh V)) none none, om6⟩ := by
    rw [← c6]
    simp [law_6_c0]
  have s6 : law_6 ⟨lw (some (.sh (.scr ns))) (sD pre) (some (.ow LD)) none (some (.sh X)) (some (.sh Y)) (some (.sh U)) (some (.sh V)) none none, om6⟩ = .nx ⟨lw (some (.sh (.scr ns))) (sD pre) (some (.sh (.lst LD))) (some (.ow BD)) (some (.sh X)) (some (.sh Y)) (some (.sh U)) (some (.sh V)) none none, om6⟩ := by simp [law_6, c6']
  have s7 : law_7 ⟨lw (some (.sh (.scr ns))) (sD pre) (some (.sh (.lst LD))) (some (.ow BD)) (some (.sh X)) (some (.sh Y)) (some (.sh U)) (some (.sh V)) none none, om6⟩ = .nx ⟨lw (some (.sh (.scr ns))) (sD pre) (some (.sh (.lst LD))) (some (.sh (.lst BD))) (some (.sh X)) (some (.sh Y)) (some (.sh U)) (some (.sh V)) none none, om6⟩ := by
    simp only [lagD] at lag sT
    simp [law_7, lag, hbx, hbn, sT]
  obtain ⟨om7, e7⟩ := ref_ok P0 h6 hp q34.1 ha0 ha1 hb0 hb1
  rw [← hX, ← hY] at e7
  refine ⟨om7, ?_⟩
  simp only [x_seq, s0, s1, s2, s3, s4, s5, s6, s7, o_nx]
  simp [law_8, e7]
end Mini.K28

set_option Elab.async false
set_option linter.all false
set_option maxRecDepth 100000
/-! the end -/
open PySem PySem.W PyProof.Rows
set_option maxHeartbeats 0 in
theorem PySem.Challenge.cw_whicheverfits_k28_two_routes_need_these_holds : PySem.Challenge.rw_whicheverfits_k28_two_routes_need_these.Holds := by
  w_on; o_law; k_head; (case hw => w_witness2)
  k_fill
  refine LamX.walk_ofTs (l := PySem.Challenge.rw_whicheverfits_k28_two_routes_need_these) (n := 63) (k := 9) (x := "script") (CX := fun w => L2.CX PySem.Challenge.rw_whicheverfits_k28_two_routes_need_these.prog w) rfl (by decide) rfl ⟨rfl, by decide, by decide⟩ (fun w h Y => PySem.W.km_in_of Y) ?F (fun _ _ _ _ _ h => Mini.noCX h)
  case F =>
    intro w mg fa h Y KX G hmg
    refine' Mini.K28.all_mk (l := PySem.Challenge.rw_whicheverfits_k28_two_routes_need_these) KX G hmg (PySem.W.km_tabs_of Y) ?a0 ?l0 ?c0 ?k0 ?a1 ?l1 ?c1 ?k1 ?a2 ?l2 ?c2 ?k2 ?a3 ?l3 ?c3 ?k3 ?a4 ?l4 ?c4 ?k4 ?a5 ?l5 ?c5 ?k5 ?a6 ?l6 ?c6 ?k6 ?a7 ?l7 ?c7 ?k7 ?a8 ?l8 ?c8 ?k8 ?a9 ?l9 ?c9 ?k9 ?a10 ?l10 ?c10 ?k10 ?a11 ?l11 ?c11 ?k11 ?a12 ?l12 ?c12 ?k12 ?a13 ?l13 ?c13 ?k13 ?a14 ?l14 ?c14 ?k14 ?a15 ?l15 ?c15 ?k15 ?a16 ?l16 ?c16 ?k16 ?a17 ?l17 ?c17 ?k17 ?a18 ?l18 ?c18 ?k18 ?a19 ?l19 ?c19 ?k19 ?a20 ?l20 ?c20 ?k20 ?a21 ?l21 ?c21 ?k21 ?a22 ?l22 ?c22 ?k22 ?a23 ?l23 ?c23 ?k23 ?a24 ?l24 ?c24 ?k24 ?z_abs ?z_all ?z_any ?z_bool ?z_dict ?z_divmod ?z_int ?z_isinstance ?z_len ?z_list ?z_max ?z_min ?z_range ?z_sorted ?z_str ?z_tuple ?z_zip ?a_LIMITS ?l_LIMITS ?k_LIMITS ?v_LIMITS0 ?r_LIMITS0 ?v_LIMITS1 ?r_LIMITS1 ?v_LIMITS2 ?r_LIMITS2 ?v_LIMITS3 ?r_LIMITS3 ?v_LIMITS4 ?r_LIMITS4 ?v_LIMITS5 ?r_LIMITS5 ?v_LIMITS6 ?r_LIMITS6 ?v_LIMITS7 ?r_LIMITS7 ?v_LIMITS8 ?r_LIMITS8 ?v_LIMITS9 ?r_LIMITS9 ?v_LIMITS10 ?r_LIMITS10 ?v_LIMITS11 ?r_LIMITS11 ?v_LIMITS12 ?r_LIMITS12 ?v_LIMITS13 ?r_LIMITS13 ?v_LIMITS14 ?r_LIMITS14 ?v_LIMITS15 ?r_LIMITS15 ?v_LIMITS16 ?r_LIMITS16 ?v_LIMITS17 ?r_LIMITS17 ?v_LIMITS18 ?r_LIMITS18 ?v_LIMITS19 ?r_LIMITS19 ?v_LIMITS20 ?r_LIMITS20 ?v_LIMITS21 ?r_LIMITS21 ?v_LIMITS22 ?r_LIMITS22 ?v_LIMITS23 ?r_LIMITS23 ?v_LIMITS24 ?r_LIMITS24 ?v_LIMITS25 ?r_LIMITS25 ?v_LIMITS26 ?r_LIMITS26 ?v_LIMITS27 ?r_LIMITS27 ?a_TooMany ?l_TooMany ?r_TooMany ?sa_TooMany ?ex_TooMany ?ty_TooMany ?kC_TooMany ?x_TooMany ?i_TooMany' ?tI_TooMany ?lI_TooMany ?cI_TooMany ?kI_TooMany ?a_BadRoutes ?l_BadRoutes ?r_BadRoutes ?sa_BadRoutes ?ex_BadRoutes ?ty_BadRoutes ?kC_BadRoutes ?x_BadRoutes ?i_BadRoutes' ?tI_BadRoutes ?lI_BadRoutes ?cI_BadRoutes ?kI_BadRoutes ?aCS ?s_TooMany ?g_TooMany_TooMany ?g_TooMany_BadRoutes ?s_BadRoutes ?g_BadRoutes_TooMany ?g_BadRoutes_BadRoutes ?lc0 ?pc0 ?hc0 ?nk0 ?mt0 ?nd ?ok
    (case a0 => k_is)
    (case l0 => k_is)
    (case c0 => k_is)
    (case k0 => k_is)
    (case a1 => k_is)
    (case l1 => k_is)
    (case c1 => k_is)
    (case k1 => k_is)
    (case a2 => k_is)
    (case l2 => k_is)
    (case c2 => k_is)
    (case k2 => k_is)
    (case a3 => k_is)
    (case l3 => k_is)
    (case c3 => k_is)
    (case k3 => k_is)
    (case a4 => k_is)
    (case l4 => k_is)
    (case c4 => k_is)
    (case k4 => k_is)
    (case a5 => k_is)
    (case l5 => k_is)
    (case c5 => k_is)
    (case k5 => k_is)
    (case a6 => k_is)
    (case l6 => k_is)
    (case c6 => k_is)
    (case k6 => k_is)
    (case a7 => k_is)
    (case l7 => k_is)
    (case c7 => k_is)
    (case k7 => k_is)
    (case a8 => k_is)
    (case l8 => k_is)
    (case c8 => k_is)
    (case k8 => k_is)
    (case a9 => k_is)
    (case l9 => k_is)
    (case c9 => k_is)
    (case k9 => k_is)
    (case a10 => k_is)
    (case l10 => k_is)
    (case c10 => k_is)
    (case k10 => k_is)
    (case a11 => k_is)
    (case l11 => k_is)
    (case c11 => k_is)
    (case k11 => k_is)
    (case a12 => k_is)
    (case l12 => k_is)
    (case c12 => k_is)
    (case k12 => k_is)
    (case a13 => k_is)
    (case l13 => k_is)
    (case c13 => k_is)
    (case k13 => k_is)
    (case a14 => k_is)
    (case l14 => k_is)
    (case c14 => k_is)
    (case k14 => k_is)
    (case a15 => k_is)
    (case l15 => k_is)
    (case c15 => k_is)
    (case k15 => k_is)
    (case a16 => k_is)
    (case l16 => k_is)
    (case c16 => k_is)
    (case k16 => k_is)
    (case a17 => k_is)
    (case l17 => k_is)
    (case c17 => k_is)
    (case k17 => k_is)
    (case a18 => k_is)
    (case l18 => k_is)
    (case c18 => k_is)
    (case k18 => k_is)
    (case a19 => k_is)
    (case l19 => k_is)
    (case c19 => k_is)
    (case k19 => k_is)
    (case a20 => k_is)
    (case l20 => k_is)
    (case c20 => k_is)
    (case k20 => k_is)
    (case a21 => k_is)
    (case l21 => k_is)
    (case c21 => k_is)
    (case k21 => k_is)
    (case a22 => k_is)
    (case l22 => k_is)
    (case c22 => k_is)
    (case k22 => k_is)
    (case a23 => k_is)
    (case l23 => k_is)
    (case c23 => k_is)
    (case k23 => k_is)
    (case a24 => k_is)
    (case l24 => k_is)
    (case c24 => k_is)
    (case k24 => k_is)
    (case z_abs => k_is)
    (case z_all => k_is)
    (case z_any => k_is)
    (case z_bool => k_is)
    (case z_dict => k_is)
    (case z_divmod => k_is)
    (case z_int => k_is)
    (case z_isinstance => k_is)
    (case z_len => k_is)
    (case z_list => k_is)
    (case z_max => k_is)
    (case z_min => k_is)
    (case z_range => k_is)
    (case z_sorted => k_is)
    (case z_str => k_is)
    (case z_tuple => k_is)
    (case z_zip => k_is)
    (case a_LIMITS => k_is)
    (case l_LIMITS => k_is)
    (case k_LIMITS => ((repeat (refine ⟨⟨_, _, rfl, rfl⟩, ?_⟩)); exact trivial))
    (case v_LIMITS0 => k_is)
    (case r_LIMITS0 => exact ⟨_, rfl⟩)
    (case v_LIMITS1 => k_is)
    (case r_LIMITS1 => exact ⟨_, rfl⟩)
    (case v_LIMITS2 => k_is)
    (case r_LIMITS2 => exact ⟨_, rfl⟩)
    (case v_LIMITS3 => k_is)
    (case r_LIMITS3 => exact ⟨_, rfl⟩)
    (case v_LIMITS4 => k_is)
    (case r_LIMITS4 => exact ⟨_, rfl⟩)
    (case v_LIMITS5 => k_is)
    (case r_LIMITS5 => exact ⟨_, rfl⟩)
    (case v_LIMITS6 => k_is)
    (case r_LIMITS6 => exact ⟨_, rfl⟩)
    (case v_LIMITS7 => k_is)
    (case r_LIMITS7 => exact ⟨_, rfl⟩)
    (case v_LIMITS8 => k_is)
    (case r_LIMITS8 => exact ⟨_, rfl⟩)
    (case v_LIMITS9 => k_is)
    (case r_LIMITS9 => exact ⟨_, rfl⟩)
    (case v_LIMITS10 => k_is)
    (case r_LIMITS10 => exact ⟨_, rfl⟩)
    (case v_LIMITS11 => k_is)
    (case r_LIMITS11 => exact ⟨_, rfl⟩)
    (case v_LIMITS12 => k_is)
    (case r_LIMITS12 => exact ⟨_, rfl⟩)
    (case v_LIMITS13 => k_is)
    (case r_LIMITS13 => exact ⟨_, rfl⟩)
    (case v_LIMITS14 => k_is)
    (case r_LIMITS14 => exact ⟨_, rfl⟩)
    (case v_LIMITS15 => k_is)
    (case r_LIMITS15 => exact ⟨_, rfl⟩)
    (case v_LIMITS16 => k_is)
    (case r_LIMITS16 => exact ⟨_, rfl⟩)
    (case v_LIMITS17 => k_is)
    (case r_LIMITS17 => exact ⟨_, rfl⟩)
    (case v_LIMITS18 => k_is)
    (case r_LIMITS18 => exact ⟨_, rfl⟩)
    (case v_LIMITS19 => k_is)
    (case r_LIMITS19 => exact ⟨_, rfl⟩)
    (case v_LIMITS20 => k_is)
    (case r_LIMITS20 => exact ⟨_, rfl⟩)
    (case v_LIMITS21 => k_is)
    (case r_LIMITS21 => exact ⟨_, rfl⟩)
    (case v_LIMITS22 => k_is)
    (case r_LIMITS22 => exact ⟨_, rfl⟩)
    (case v_LIMITS23 => k_is)
    (case r_LIMITS23 => exact ⟨_, rfl⟩)
    (case v_LIMITS24 => k_is)
    (case r_LIMITS24 => exact ⟨_, rfl⟩)
    (case v_LIMITS25 => k_is)
    (case r_LIMITS25 => exact ⟨_, rfl⟩)
    (case v_LIMITS26 => k_is)
    (case r_LIMITS26 => exact ⟨_, rfl⟩)
    (case v_LIMITS27 => k_is)
    (case r_LIMITS27 => exact ⟨_, rfl⟩)
    (case a_TooMany => k_is)
    (case l_TooMany => k_is)
    (case r_TooMany => first | rfl | decide +kernel)
    (case sa_TooMany => k_is)
    (case ex_TooMany => k_is)
    (case ty_TooMany => k_is)
    (case kC_TooMany => k_is)
    (case x_TooMany => kernel_rfl)
    (case i_TooMany' => k_is)
    (case tI_TooMany => k_is)
    (case lI_TooMany => k_is)
    (case cI_TooMany => k_is)
    (case kI_TooMany => k_is)
    (case a_BadRoutes => k_is)
    (case l_BadRoutes => k_is)
    (case r_BadRoutes => first | rfl | decide +kernel)
    (case sa_BadRoutes => k_is)
    (case ex_BadRoutes => k_is)
    (case ty_BadRoutes => k_is)
    (case kC_BadRoutes => k_is)
    (case x_BadRoutes => kernel_rfl)
    (case i_BadRoutes' => k_is)
    (case tI_BadRoutes => k_is)
    (case lI_BadRoutes => k_is)
    (case cI_BadRoutes => k_is)
    (case kI_BadRoutes => k_is)
    (case aCS => k_is)
    (case s_TooMany => kernel_rfl)
    (case g_TooMany_TooMany => kernel_rfl)
    (case g_TooMany_BadRoutes => kernel_rfl)
    (case s_BadRoutes => kernel_rfl)
    (case g_BadRoutes_TooMany => kernel_rfl)
    (case g_BadRoutes_BadRoutes => kernel_rfl)
    (case lc0 => k_is)
    (case pc0 => rfl)
    (case hc0 => kernel_rfl)
    (case nk0 => kernel_rfl)
    (case mt0 => decide)
    (case nd => decide)
    (case ok => exact Mini.K28.law_true _)
