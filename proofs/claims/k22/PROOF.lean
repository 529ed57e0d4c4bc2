import PyProof.Rows.All
import PySem.PyData
import HandS.ForMost
import HandS.Exc
import HandS.TryOnly
import HandS.ExcOwn
import HandS.WordsExc
import HandS.IsInst
import HandS.Wide
import HandS.Flow
import HandS.Style
import HandS.Zip
import PySem.Challenge.RW_whicheverfits_k22_numbers_that_meet_all

set_option linter.all false
set_option autoImplicit false
/-! PyEv: a small functional evaluator of the Python that the laws use: data, states, one combinator a construct. -/
namespace Mini
open PySem

/-- data by value; cells are named mutable objects of the store; scr is the script -/
inductive D where
  | non | bl (b : Bool) | int (i : Int) | str (x : Str) | lst (xs : List D) | tup (xs : List D) | scr (xs : List Int) | cell (n : Nat)
  deriving Inhabited

/-- an expression's value: shared, or a list just made that nobody else holds -/
inductive Vl where
  | sh (d : D) | ow (xs : List D)
def Vl.d : Vl → D
  | .sh d => d
  | .ow xs => .lst xs
theorem Vl.d_sh (d : D) : (Vl.sh d).d = d := rfl
theorem Vl.d_ow (xs : List D) : (Vl.ow xs).d = .lst xs := rfl

abbrev Ky := Sum Int Str
def D.ofKy : Ky → D
  | .inl i => .int i
  | .inr x => .str x
def D.ky? : D → Option Ky
  | .int i => some (.inl i)
  | .str x => some (.inr x)
  | _ => none
inductive Cell where
  | lst (xs : List D)
  | dK (kvs : List (Ky × D))

structure Xc where
  cls : Str
  fs : List (Str × D)

structure St where
  env : List (Option Vl)
  om : List Cell

inductive R (α : Type) where
  | ok (a : α) (st : St) | ex (x : Xc) (st : St) | no

def R.bind {α β : Type} (r : R α) (f : α → St → R β) : R β :=
  match r with
  | .ok a st => f a st
  | .ex x st => .ex x st
  | .no => .no
section
variable {α β : Type} (a : α) (st : St) (x : Xc) (f : α → St → R β)
theorem R.bind_ok : (R.ok a st).bind f = f a st := rfl
theorem R.bind_ex : (R.ex x st : R α).bind f = .ex x st := rfl
theorem R.bind_no : (R.no : R α).bind f = .no := rfl
end

abbrev EvE := St → R Vl
abbrev EvT := St → R Bool
abbrev EvA := St → R (List D)

/-- what a def gives -/
inductive FR where
  | ok (v : Vl) (om : List Cell) | ex (x : Xc) (om : List Cell) | no
abbrev Fn := List D → List Cell → FR

/-- a statement's end -/
inductive O where
  | nx (st : St) | rt (v : Vl) (st : St) | bk (st : St) | ct (st : St) | ex (x : Xc) (st : St) | no
abbrev EvS := St → O

def R.thenS {α : Type} (r : R α) (f : α → St → O) : O :=
  match r with
  | .ok a st => f a st
  | .ex x st => .ex x st
  | .no => .no
section
variable {α : Type} (a : α) (st : St) (x : Xc) (f : α → St → O)
theorem R.thenS_ok : (R.ok a st).thenS f = f a st := rfl
theorem R.thenS_ex : (R.ex x st : R α).thenS f = .ex x st := rfl
theorem R.thenS_no : (R.no : R α).thenS f = .no := rfl
end

def many : Nat := 100000

/-! ### expressions -/
def eNo : EvE := fun _ => .no
def eVar (i : Nat) : EvE := fun st => match st.env[i]? with
  | some (some (.sh d)) => .ok (.sh d) st
  | some (some (.ow xs)) => .ok (.sh (.lst xs)) { st with env := st.env.set i (some (.sh (.lst xs))) }
  | _ => .no
def eC (d : D) : EvE := fun st => .ok (.sh d) st
def eInt (i : Int) : EvE := eC (.int i)
def eStr (x : Str) : EvE := eC (.str x)

abbrev Op2 := D → D → Option Vl
def eOp (f : Op2) (a b : EvE) : EvE := fun st => (a st).bind fun x s1 => (b s1).bind fun y s2 => match f x.d y.d with
  | some v => .ok v s2
  | none => .no
abbrev Op1 := D → Option Vl
def eOp1 (f : Op1) (a : EvE) : EvE := fun st => (a st).bind fun x s1 => match f x.d with
  | some v => .ok v s1
  | none => .no

def wordOk (i j : Int) : Bool := decide (i.natAbs < 2 ^ 64) || (decide (j.natAbs < 2 ^ 64) || decide (i.natAbs.log2 + j.natAbs.log2 < 1000000))
def oAdd : Op2
  | .int i, .int j => some (.sh (.int (i + j)))
  | .str x, .str y => if x.cps.size + y.cps.size ≤ many then some (.sh (.str ⟨x.cps ++ y.cps⟩)) else none
  | .lst xs, .lst ys => if xs.length + ys.length ≤ many then some (.ow (xs ++ ys)) else none
  | _, _ => none
def oSub : Op2
  | .int i, .int j => some (.sh (.int (i - j)))
  | _, _ => none
def oMul : Op2
  | .int i, .int j => if wordOk i j then some (.sh (.int (i * j))) else none
  | .lst xs, .int k => if xs.length * k.toNat ≤ many ∧ -1000000 ≤ k ∧ k ≤ 1000000 then some (.ow (List.replicate k.toNat xs).flatten) else none
  | _, _ => none
def oDiv : Op2
  | .int i, .int j => if 0 < j ∧ j.natAbs.log2 < 9000 then some (.sh (.int (i / j))) else none
  | _, _ => none
def oMod : Op2
  | .int i, .int j => if j = 0 then none else some (.sh (.int (i.fmod j)))
  | _, _ => none
def oPow : Op2
  | .int i, .int j => if 0 ≤ j ∧ j ≤ 1000 ∧ i.natAbs.log2 < 1000 then some (.sh (.int (i ^ j.toNat))) else none
  | _, _ => none
def oNeg : Op1
  | .int i => some (.sh (.int (-i)))
  | _ => none

/-! comparisons -/
def strFine (x : Str) : Bool := decide (x.cps.size ≤ many) && x.cps.all fun c => decide (c < 0xD800)
mutual
/-- Python's == over plain data, none where it is not told here -/
def D.eq : D → D → Bool
  | .non, .non => true
  | .bl a, .bl b => a == b
  | .bl a, .int j => (if a then 1 else 0) == j
  | .int i, .bl b => i == (if b then 1 else 0)
  | .int i, .int j => i == j
  | .str x, .str y => x == y
  | .lst xs, .lst ys => D.eqs xs ys
  | .tup xs, .tup ys => D.eqs xs ys
  | _, _ => false
def D.eqs : List D → List D → Bool
  | [], [] => true
  | x :: xs, y :: ys => D.eq x y && D.eqs xs ys
  | _, _ => false
end
mutual
/-- plain data, at most so deep -/
def D.fine : Nat → D → Bool
  | _, .non => true
  | _, .bl _ => true
  | _, .int _ => true
  | _, .str x => strFine x
  | 0, _ => false
  | n + 1, .lst xs => D.fines n xs
  | n + 1, .tup xs => D.fines n xs
  | _, _ => false
def D.fines : Nat → List D → Bool
  | _, [] => true
  | n, x :: xs => D.fine n x && D.fines n xs
end
def deep : Nat := 20
def oEq : Op2 := fun x y => if x.fine deep && y.fine deep then some (.sh (.bl (x.eq y))) else none
def oNe : Op2 := fun x y => if x.fine deep && y.fine deep then some (.sh (.bl (!x.eq y))) else none
def oCmp (p : Int → Int → Bool) : Op2
  | .int i, .int j => some (.sh (.bl (p i j)))
  | _, _ => none
def oLt : Op2 := oCmp fun i j => decide (i < j)
def oLe : Op2 := oCmp fun i j => decide (i ≤ j)
def oGt : Op2 := oCmp fun i j => decide (j < i)
def oGe : Op2 := oCmp fun i j => decide (j ≤ i)
def D.isNon : D → Bool
  | .non => true
  | _ => false
def oIsN : Op1 := fun x => some (.sh (.bl x.isNon))
def oNotN : Op1 := fun x => some (.sh (.bl (!x.isNon)))

/-! displays -/
def aNil : EvA := fun st => .ok [] st
def aCons (e : EvE) (r : EvA) : EvA := fun st => (e st).bind fun x s1 => (r s1).bind fun xs s2 => .ok (x.d :: xs) s2
def eTup (a : EvA) : EvE := fun st => (a st).bind fun xs s1 => if xs.length ≤ many then .ok (.sh (.tup xs)) s1 else .no
def eLst (a : EvA) : EvE := fun st => (a st).bind fun xs s1 => if xs.length ≤ many then .ok (.ow xs) s1 else .no

/-! subscripts -/
def ixNat (n : Nat) (i : Int) : Option Nat := if 0 ≤ i then (if i < n then some i.toNat else none) else if -(n : Int) ≤ i then some (i + n).toNat else none
def atIx {α : Type} (xs : List α) (i : Int) : Option α := (ixNat xs.length i).bind fun j => xs[j]?
def oIx : Op2
  | .lst xs, .int i => (atIx xs i).map .sh
  | .tup xs, .int i => (atIx xs i).map .sh
  | .scr xs, .int i => (atIx xs i).map fun k => .sh (.int k)
  | _, _ => none
/-- the list of slot i as it stands -/
def St.look (st : St) (i : Nat) : Option (List D) := match st.env[i]? with
  | some (some (.sh (.lst xs))) => some xs
  | some (some (.ow xs)) => some xs
  | _ => none
/-- len of slot i, without an end to its being ours -/
def eLenV (i : Nat) : EvE := fun st => match st.look i with
  | some xs => .ok (.sh (.int xs.length)) st
  | none => .no
def oLen : Op1
  | .lst xs => some (.sh (.int xs.length))
  | .tup xs => some (.sh (.int xs.length))
  | .scr xs => some (.sh (.int xs.length))
  | .str x => if x.cps.size ≤ many then some (.sh (.int x.cps.size)) else none
  | _ => none

/-! dicts that are cells -/
def kvGet (kvs : List (Ky × D)) (k : Ky) : Option D := (kvs.find? fun kv => decide (kv.1 = k)).map (·.2)
def kvPut (kvs : List (Ky × D)) (k : Ky) (d : D) : List (Ky × D) :=
  if (kvs.any fun kv => decide (kv.1 = k)) = true then kvs.map (fun kv => if kv.1 = k then (kv.1, d) else kv) else kvs ++ [(k, d)]
def eDGet (a b : EvE) : EvE := fun st => (a st).bind fun x s1 => (b s1).bind fun y s2 => match x.d, y.d.ky? with
  | .cell n, some k => (match s2.om[n]? with
    | some (.dK kvs) => (match kvGet kvs k with
      | some d => .ok (.sh d) s2
      | none => .no)
    | _ => .no)
  | _, _ => .no
/-- a display of texts' keys: a new cell -/
def eDisp (ks : List Str) (a : EvA) : EvE := fun st => (a st).bind fun ds s1 =>
  if ds.length = ks.length ∧ ks.length ≤ 15 then .ok (.sh (.cell s1.om.length)) { s1 with om := s1.om ++ [.dK ((ks.zip ds).foldl (fun acc kv => kvPut acc (.inr kv.1) kv.2) [])] } else .no
/-- a display of a list that is a cell -/
def eLstC (a : EvA) : EvE := fun st => (a st).bind fun xs s1 =>
  if xs.length ≤ many then .ok (.sh (.cell s1.om.length)) { s1 with om := s1.om ++ [.lst xs] } else .no
/-- c.pop(i) of a cell's list -/
def ePopC (a b : EvE) : EvE := fun st => (a st).bind fun x s1 => match x.d with
  | .cell n => (match s1.om[n]? with
    | some (.lst _) => (b s1).bind fun y s2 => (match y.d, s2.om[n]? with
      | .int i, some (.lst xs) => if 0 ≤ i ∧ i < 1000000 then (match xs[i.toNat]? with
        | some d => .ok (.sh d) { s2 with om := s2.om.set n (.lst (xs.eraseIdx i.toNat)) }
        | none => .no) else .no
      | _, _ => .no)
    | _ => .no)
  | _ => .no
/-- xs.pop(i) of our own list in slot j -/
def ePopV (j : Nat) (b : EvE) : EvE := fun st => match st.env[j]? with
  | some (some (.ow _)) => (b st).bind fun y s2 => (match y.d, s2.env[j]? with
    | .int i, some (some (.ow xs)) => if 0 ≤ i ∧ i < 1000000 then (match xs[i.toNat]? with
        | some d => .ok (.sh d) { s2 with env := s2.env.set j (some (.ow (xs.eraseIdx i.toNat))) }
        | none => .no) else .no
    | _, _ => .no)
  | _ => .no

/-! tests -/
def D.tru (om : List Cell) : D → Option Bool
  | .non => some false
  | .bl b => some b
  | .int i => some (i != 0)
  | .str x => if x.cps.size ≤ many then some ((x.cps.size : Int) != 0) else none
  | .lst xs => some (!xs.isEmpty)
  | .tup xs => some (!xs.isEmpty)
  | .scr xs => some (!xs.isEmpty)
  | .cell n => match om[n]? with
    | some (.lst xs) => some (!xs.isEmpty)
    | some (.dK kvs) => some (!kvs.isEmpty)
    | none => none
def tTru (e : EvE) : EvT := fun st => (e st).bind fun x s1 => match x.d.tru s1.om with
  | some b => .ok b s1
  | none => .no
/-- the truth of the list in slot i, without an end to its being ours -/
def tTruV (i : Nat) : EvT := fun st => match st.look i with
  | some xs => .ok (!xs.isEmpty) st
  | none => .no
/-- a comparison as a test -/
def tBl (e : EvE) : EvT := fun st => (e st).bind fun x s1 => match x.d with
  | .bl b => .ok b s1
  | _ => .no
def tAnd (a b : EvT) : EvT := fun st => (a st).bind fun x s1 => if x = true then b s1 else .ok false s1
def tOr (a b : EvT) : EvT := fun st => (a st).bind fun x s1 => if x = true then .ok true s1 else b s1
def tNot (a : EvT) : EvT := fun st => (a st).bind fun x s1 => .ok (!x) s1
/-- and, or, not of truth values, as values -/
def eAnd (a b : EvE) : EvE := fun st => (a st).bind fun x s1 => match x.d with
  | .bl true => b s1
  | .bl false => .ok (.sh (.bl false)) s1
  | _ => .no
def eOr (a b : EvE) : EvE := fun st => (a st).bind fun x s1 => match x.d with
  | .bl true => .ok (.sh (.bl true)) s1
  | .bl false => b s1
  | _ => .no
def eNot (a : EvE) : EvE := fun st => (a st).bind fun x s1 => match x.d with
  | .bl b => .ok (.sh (.bl (!b))) s1
  | _ => .no
def eIf (t : EvT) (a b : EvE) : EvE := fun st => (t st).bind fun c s1 => if c = true then a s1 else b s1
/-- a < b < c -/
def eChain (f g : Op2) (a b c : EvE) : EvE := fun st => (a st).bind fun x s1 => (b s1).bind fun y s2 => match f x.d y.d with
  | some v => (match v.d with
    | .bl true => (c s2).bind fun z s3 => (match g y.d z.d with
      | some w => .ok w s3
      | none => .no)
    | .bl false => .ok (.sh (.bl false)) s2
    | _ => .no)
  | none => .no

/-! calls -/
def eCall (F : Fn) (a : EvA) : EvE := fun st => (a st).bind fun ds s1 => match F ds s1.om with
  | .ok v om => .ok v { s1 with om := om }
  | .ex x om => .ex x { s1 with om := om }
  | .no => .no
abbrev OpA := List D → Option Vl
/-- a built-in called -/
def eB (f : OpA) (a : EvA) : EvE := fun st => (a st).bind fun ds s1 => match f ds with
  | some v => .ok v s1
  | none => .no
def bAbs : OpA
  | [.int i] => some (.sh (.int (if i < 0 then -i else i)))
  | _ => none
def bMin : OpA
  | [.int i, .int j] => some (.sh (.int (if j < i then j else i)))
  | _ => none
def bMax : OpA
  | [.int i, .int j] => some (.sh (.int (if j > i then j else i)))
  | _ => none
def bLen : OpA
  | [x] => oLen x
  | _ => none
def bInt : OpA
  | [.int i] => some (.sh (.int i))
  | [.bl b] => some (.sh (.int (if b then 1 else 0)))
  | _ => none
def bList : OpA
  | [.lst xs] => some (.ow xs)
  | [.tup xs] => some (.ow xs)
  | _ => none
def bTuple : OpA
  | [.lst xs] => some (.sh (.tup xs))
  | [.tup xs] => some (.sh (.tup xs))
  | _ => none
def D.bls : List D → Option (List Bool)
  | [] => some []
  | .bl b :: r => (D.bls r).map (b :: ·)
  | _ => none
def bAll : OpA
  | [.lst xs] => (D.bls xs).map fun bs => .sh (.bl (bs.all id))
  | _ => none
def bAny : OpA
  | [.lst xs] => (D.bls xs).map fun bs => .sh (.bl (bs.any id))
  | _ => none
/-- isinstance(x, T), T by its name -/
inductive Ty where
  | bool | int | str | dict | tuple | list
def D.isA (om : List Cell) : D → Ty → Option Bool
  | .non, _ => some false
  | .bl _, .bool => some true
  | .bl _, .int => some true
  | .bl _, _ => some false
  | .int _, .int => some true
  | .int _, _ => some false
  | .str _, .str => some true
  | .str _, _ => some false
  | .lst _, .list => some true
  | .lst _, _ => some false
  | .tup _, .tuple => some true
  | .tup _, _ => some false
  | _, _ => none
def eIsA (a : EvE) (t : Ty) : EvE := fun st => (a st).bind fun x s1 => match x.d.isA s1.om t with
  | some b => .ok (.sh (.bl b)) s1
  | none => .no

/-! ### what is walked -/
abbrev EvI := St → R (List D)
def D.items : D → Option (List D)
  | .lst xs => some xs
  | .tup xs => some xs
  | _ => none
def iSeq (e : EvE) : EvI := fun st => (e st).bind fun x s1 => match x.d with
  | .lst xs => .ok xs s1
  | _ => .no
def iTup (e : EvE) : EvI := fun st => (e st).bind fun x s1 => match x.d with
  | .tup xs => .ok xs s1
  | _ => .no
/-- a list or a tuple -/
def iAny (e : EvE) : EvI := fun st => (e st).bind fun x s1 => match x.d with
  | .lst xs => .ok xs s1
  | .tup xs => .ok xs s1
  | _ => .no
def rangeD (lo : Int) (n : Nat) : List D := (List.range n).map fun (k : Nat) => D.int (lo + (k : Int))
def far : Int := 4000000000000000000
def iRange1 (a : EvA) : EvI := fun st => (a st).bind fun ds s1 => match ds with
  | [.int j] => if -far ≤ j ∧ j < far then .ok (rangeD 0 j.toNat) s1 else .no
  | _ => .no
def iRange2 (a : EvA) : EvI := fun st => (a st).bind fun ds s1 => match ds with
  | [.int i, .int j] => if (-far ≤ i ∧ i < far) ∧ -far ≤ j ∧ j < far then .ok (rangeD i (j - i).toNat) s1 else .no
  | _ => .no
def iZip (a : EvA) : EvI := fun st => (a st).bind fun ds s1 => match ds with
  | [.lst xs, .lst ys] => .ok ((xs.zip ys).map fun p => D.tup [p.1, p.2]) s1
  | _ => .no

/-! ### targets -/
abbrev EvG := D → St → Option St
def gNm (i : Nat) : EvG := fun d st => if i < st.env.length then some { st with env := st.env.set i (some (.sh d)) } else none
abbrev EvGs := List D → St → Option St
def gNone : EvGs := fun ds st => match ds with
  | [] => some st
  | _ => none
def gMore (g : EvG) (r : EvGs) : EvGs := fun ds st => match ds with
  | d :: ds => (g d st).bind fun s1 => r ds s1
  | [] => none
def gTp (r : EvGs) : EvG := fun d st => match d with
  | .tup ds => r ds st
  | _ => none

/-! ### a comprehension: own slots are empty ahead of it, and behind it -/
def wipeEnv (env : List (Option Vl)) : List Nat → List (Option Vl)
  | [] => env
  | v :: vs => (wipeEnv env vs).set v none
/-- an item's turn: some: it gives the value -/
def compGo (g : EvG) (t : EvT) (e : EvE) (vs : List Nat) : List D → List D → St → R (List D)
  | [], acc, st => .ok acc st
  | x :: xs, acc, st => match g x st with
    | none => .no
    | some s1 => (t s1).bind fun b s2 => if b = true then (e s2).bind fun y s3 => (if acc.length < many then compGo g t e vs xs (acc ++ [y.d]) { s3 with env := wipeEnv s3.env vs } else .no)
      else compGo g t e vs xs acc { s2 with env := wipeEnv s2.env vs }
/-- the slots of vs hold nothing of our own -/
def calmSlots (env : List (Option Vl)) (vs : List Nat) : Bool := vs.all fun v => match env[v]? with
  | some (some (.ow _)) => false
  | some _ => true
  | none => false
def restore (env env' : List (Option Vl)) : List Nat → List (Option Vl)
  | [] => env'
  | v :: vs => (restore env env' vs).set v (env[v]?.getD none)
def eComp (i : EvI) (g : EvG) (t : EvT) (e : EvE) (vs : List Nat) : EvE := fun st => (i st).bind fun xs s1 =>
  if calmSlots s1.env vs = true then (match compGo g t e vs xs [] { s1 with env := wipeEnv s1.env vs } with
    | .ok ys s2 => .ok (.ow ys) { s2 with env := restore s1.env s2.env vs }
    | _ => .no) else .no
def tYes : EvT := fun st => .ok true st

/-! ### statements -/
def sNo : EvS := fun _ => .no
def sPass : EvS := fun st => .nx st
def O.seq (o : O) (f : St → O) : O :=
  match o with
  | .nx st => f st
  | o => o
def sSeq (a b : EvS) : EvS := fun st => (a st).seq b
def sSet (i : Nat) (e : EvE) : EvS := fun st => (e st).thenS fun v s1 => if i < s1.env.length then .nx { s1 with env := s1.env.set i (some v) } else .no
def sGet (g : EvG) (e : EvE) : EvS := fun st => (e st).thenS fun v s1 => match g v.d s1 with
  | some s2 => .nx s2
  | none => .no
/-- several values, from the left -/
def eVals : List EvE → St → R (List Vl)
  | [], st => .ok [] st
  | e :: es, st => (e st).bind fun v s1 => (eVals es s1).bind fun vs s2 => .ok (v :: vs) s2
def setAll : List (Option Vl) → List Nat → List Vl → List (Option Vl)
  | env, i :: is, v :: vs => setAll (env.set i (some v)) is vs
  | env, _, _ => env
/-- a, b = x, y : no tuple is made -/
def sPar (is : List Nat) (es : List EvE) : EvS := fun st => (eVals es st).thenS fun vs s1 =>
  if is.all (fun i => decide (i < s1.env.length)) = true then .nx { s1 with env := setAll s1.env is vs } else .no
def sRet (e : EvE) : EvS := fun st => (e st).thenS fun v s1 => .rt v s1
/-- return of our own list in slot i -/
def eOwn (i : Nat) : EvE := fun st => match st.env[i]? with
  | some (some (.ow xs)) => .ok (.ow xs) { st with env := st.env.set i none }
  | some (some (.sh d)) => .ok (.sh d) st
  | _ => .no
def sRetN : EvS := fun st => .rt (.sh .non) st
def sIf (t : EvT) (a b : EvS) : EvS := fun st => (t st).thenS fun c s1 => if c = true then a s1 else b s1
def sDrop (e : EvE) : EvS := fun st => (e st).thenS fun _ s1 => .nx s1
def sBreak : EvS := fun st => .bk st
def sCont : EvS := fun st => .ct st
/-- xs.append(e), xs our own list in slot i -/
def sApp (i : Nat) (e : EvE) : EvS := fun st => match st.env[i]? with
  | some (some (.ow _)) => (e st).thenS fun v s1 => (match s1.env[i]? with
    | some (some (.ow xs)) => if xs.length < many then .nx { s1 with env := s1.env.set i (some (.ow (xs ++ [v.d]))) } else .no
    | _ => .no)
  | _ => .no
/-- c.append(e), c a cell's list -/
def sAppC (a e : EvE) : EvS := fun st => (a st).thenS fun x s1 => match x.d with
  | .cell n => (match s1.om[n]? with
    | some (.lst _) => (e s1).thenS fun v s2 => (match s2.om[n]? with
      | some (.lst xs) => if xs.length < many then .nx { s2 with om := s2.om.set n (.lst (xs ++ [v.d])) } else .no
      | _ => .no)
    | _ => .no)
  | _ => .no
/-- d[k] = e, d a cell's dict -/
def sDPut (a b e : EvE) : EvS := fun st => (e st).thenS fun v s1 => (a s1).thenS fun x s2 => (b s2).thenS fun y s3 => match x.d, y.d.ky? with
  | .cell n, some k => (match s3.om[n]? with
    | some (.dK kvs) => if kvs.length < many then .nx { s3 with om := s3.om.set n (.dK (kvPut kvs k v.d)) } else .no
    | _ => .no)
  | _, _ => .no
def forGo (g : EvG) (b : EvS) : List D → St → O
  | [], st => .nx st
  | x :: xs, st => match g x st with
    | none => .no
    | some s1 => (match b s1 with
      | .nx s2 => forGo g b xs s2
      | .ct s2 => forGo g b xs s2
      | .bk s2 => .nx s2
      | .rt v s2 => .rt v s2
      | .ex x s2 => .ex x s2
      | .no => .no)
def sFor (i : EvI) (g : EvG) (b : EvS) : EvS := fun st => (i st).thenS fun xs s1 => forGo g b xs s1
def whileGo (t : EvT) (b : EvS) : Nat → St → O
  | 0, _ => .no
  | n + 1, st => (t st).thenS fun c s1 => if c = true then (match b s1 with
      | .nx s2 => whileGo t b n s2
      | .ct s2 => whileGo t b n s2
      | .bk s2 => .nx s2
      | .rt v s2 => .rt v s2
      | .ex x s2 => .ex x s2
      | .no => .no) else .nx s1
def sWhile (n : Nat) (t : EvT) (b : EvS) : EvS := fun st => whileGo t b n st

/-- more turns than any loop takes -/
def fuel : Nat := 10 ^ 300
/-! ### defs -/
def runDef (n : Nat) (b : EvS) : Fn := fun ds om => match b { env := (ds.map fun d => some (Vl.sh d)) ++ List.replicate (n - ds.length) none, om := om } with
  | .nx st => .ok (.sh .non) st.om
  | .rt v st => .ok v st.om
  | .ex x st => .ex x st.om
  | _ => .no
end Mini

set_option Elab.async false
set_option linter.all false
set_option maxRecDepth 100000
set_option maxHeartbeats 1000000
/-! PySE1: how the evaluator's states stand in the abstract heap. -/
namespace Mini
open PySem PySem.Spec PyProof.Rows L2

def Sub (B B' : Hp) : Prop := ∀ a o, B a = some o → B' a = some o
theorem Sub.refl (B : Hp) : Sub B B := fun _ _ h => h
theorem Sub.trans {A B C : Hp} (x : Sub A B) (y : Sub B C) : Sub A C := fun a o h => y a o (x a o h)
def Pre (ρ ρ' : List Addr) : Prop := ∀ (n : Nat) (a : Addr), ρ[n]? = some a → ρ'[n]? = some a
theorem Pre.refl (ρ : List Addr) : Pre ρ ρ := fun _ _ h => h
theorem Pre.trans {a b c : List Addr} (x : Pre a b) (y : Pre b c) : Pre a c := fun n k h => y n k (x n k h)
theorem Pre.mem {ρ ρ' : List Addr} (x : Pre ρ ρ') {a : Addr} (h : a ∈ ρ) : a ∈ ρ' := by
  obtain ⟨n, hn⟩ := List.mem_iff_getElem?.mp h
  exact List.mem_iff_getElem?.mpr ⟨n, x n a hn⟩
theorem Pre.push (ρ : List Addr) (p : Addr) : Pre ρ (ρ ++ [p]) := fun n a h => by
  rw [List.getElem?_append_left (List.getElem?_eq_some_iff.mp h).1]
  exact h

mutual
/-- v is the datum d: what is read stands in B, the cells at ρ -/
inductive Rep (K : PySem.W.Frag) (B : Hp) (ρ : List Addr) : V → D → Prop
  | non : Rep K B ρ .non .non
  | bl (b : Bool) : Rep K B ρ (.bl b) (.bl b)
  | int (i : Int) : Rep K B ρ (.int i) (.int i)
  | str (x : Str) : Rep K B ρ (.str x) (.str x)
  | lst {a : Addr} {vs : List V} {ds : List D} : B a = some (.lst vs) → Reps K B ρ vs ds → Rep K B ρ (.ref a) (.lst ds)
  | tup {a : Addr} {vs : List V} {ds : List D} : B a = some (.tup vs) → Reps K B ρ vs ds → Rep K B ρ (.ref a) (.tup ds)
  | scr {a : Addr} {ns : List Int} : SqL K B a (ns.map V.int) → Rep K B ρ (.ref a) (.scr ns)
  | cell {a : Addr} {n : Nat} : ρ[n]? = some a → Rep K B ρ (.ref a) (.cell n)
inductive Reps (K : PySem.W.Frag) (B : Hp) (ρ : List Addr) : List V → List D → Prop
  | nil : Reps K B ρ [] []
  | cons {v : V} {vs : List V} {d : D} {ds : List D} : Rep K B ρ v d → Reps K B ρ vs ds → Reps K B ρ (v :: vs) (d :: ds)
end
section
variable {K : PySem.W.Frag} {B B' : Hp} {ρ ρ' : List Addr}
theorem sub_sqL {a : Addr} {xs : List V} (e : Sub B B') (h : SqL K B a xs) : SqL K B' a xs := by
  rcases h with (h | ⟨o, h⟩) | h
  · exact .inl (.inl (e _ _ h))
  · exact .inl (.inr ⟨o, e _ _ h⟩)
  · exact .inr h
mutual
theorem Rep.mono (e : Sub B B') (p : Pre ρ ρ') : ∀ {v : V} {d : D}, Rep K B ρ v d → Rep K B' ρ' v d
  | _, _, .non => .non
  | _, _, .bl b => .bl b
  | _, _, .int i => .int i
  | _, _, .str x => .str x
  | _, _, .lst h r => .lst (e _ _ h) (Reps.mono e p r)
  | _, _, .tup h r => .tup (e _ _ h) (Reps.mono e p r)
  | _, _, .scr h => .scr (sub_sqL e h)
  | _, _, .cell h => .cell (p _ _ h)
theorem Reps.mono (e : Sub B B') (p : Pre ρ ρ') : ∀ {vs : List V} {ds : List D}, Reps K B ρ vs ds → Reps K B' ρ' vs ds
  | _, _, .nil => .nil
  | _, _, .cons r t => .cons (Rep.mono e p r) (Reps.mono e p t)
end
theorem Reps.length : ∀ {vs : List V} {ds : List D}, Reps K B ρ vs ds → vs.length = ds.length
  | _, _, .nil => rfl
  | _, _, .cons _ t => by rw [List.length_cons, List.length_cons, Reps.length t]
theorem Reps.get : ∀ {vs : List V} {ds : List D} {i : Nat} {d : D}, Reps K B ρ vs ds → ds[i]? = some d → ∃ v, vs[i]? = some v ∧ Rep K B ρ v d
  | _, _, _, _, .nil, h => by simp at h
  | _, _, 0, _, .cons r _, h => by
    have e := Option.some.inj h
    subst e
    exact ⟨_, rfl, r⟩
  | _, _, i + 1, d, .cons _ t, h => by
    obtain ⟨v, h1, h2⟩ := Reps.get (i := i) (d := d) t (by simpa using h)
    exact ⟨v, by simpa using h1, h2⟩
theorem Reps.append : ∀ {vs ws : List V} {ds es : List D}, Reps K B ρ vs ds → Reps K B ρ ws es → Reps K B ρ (vs ++ ws) (ds ++ es)
  | _, _, _, _, .nil, h => h
  | _, _, _, _, .cons r t, h => .cons r (Reps.append t h)
theorem Reps.one {v : V} {d : D} (r : Rep K B ρ v d) : Reps K B ρ [v] [d] := .cons r .nil
theorem Reps.eraseIdx : ∀ {vs : List V} {ds : List D} (i : Nat), Reps K B ρ vs ds → Reps K B ρ (vs.eraseIdx i) (ds.eraseIdx i)
  | _, _, _, .nil => .nil
  | _, _, 0, .cons _ t => t
  | _, _, i + 1, .cons r t => .cons r (Reps.eraseIdx i t)
theorem Reps.drop : ∀ {vs : List V} {ds : List D} (i : Nat), Reps K B ρ vs ds → Reps K B ρ (vs.drop i) (ds.drop i)
  | _, _, 0, h => h
  | _, _, _ + 1, .nil => .nil
  | _, _, i + 1, .cons _ t => Reps.drop i t
theorem Reps.take : ∀ {vs : List V} {ds : List D} (i : Nat), Reps K B ρ vs ds → Reps K B ρ (vs.take i) (ds.take i)
  | _, _, 0, _ => .nil
  | _, _, _ + 1, .nil => .nil
  | _, _, i + 1, .cons r t => .cons r (Reps.take i t)
theorem Reps.set : ∀ {vs : List V} {ds : List D} (i : Nat) {v : V} {d : D}, Rep K B ρ v d → Reps K B ρ vs ds → Reps K B ρ (vs.set i v) (ds.set i d)
  | _, _, _, _, _, _, .nil => .nil
  | _, _, 0, _, _, q, .cons _ t => .cons q t
  | _, _, i + 1, _, _, q, .cons r t => .cons r (Reps.set i q t)
theorem Reps.rep : ∀ {vs : List V} {ds : List D} (k : Nat), Reps K B ρ vs ds → Reps K B ρ (List.replicate k vs).flatten (List.replicate k ds).flatten
  | _, _, 0, _ => .nil
  | _, _, k + 1, h => by
    rw [List.replicate_succ, List.replicate_succ, List.flatten_cons, List.flatten_cons]
    exact Reps.append h (Reps.rep k h)
end

/-! ### cells, slots, states -/
section
variable (K : PySem.W.Frag) (B : Hp) (ρ : List Addr)
def CellR (c : Cell) (o : HO) : Prop :=
  match c with
  | .lst ds => ∃ vs, o = .lst vs ∧ Reps K B ρ vs ds
  | .dK kvs => ∃ kws, o = .dK kws ∧ Paired (fun (p : Key × V) (q : Ky × D) => p.1 = q.1 ∧ Rep K B ρ p.2 q.2) kws kvs
def VlR (H : Hp) (x : V) (v : Vl) : Prop :=
  match v with
  | .sh d => Rep K B ρ x d
  | .ow ds => ∃ p vs, x = .ref p ∧ H p = some (.lst vs) ∧ Reps K B ρ vs ds
end
/-- B0: what was known at the entry; P: what must stay as it is -/
structure Gx where
  B0 : Hp
  P : Hp
structure Rel (K : PySem.W.Frag) (g : Gx) (B : Hp) (ρ : List Addr) (st : St) (σ : L2.St) (H : Hp) : Prop where
  len : st.env.length = σ.length
  sub : Sub B H
  prot : Sub g.P H
  new : ∀ a, B a ≠ none → g.B0 a ≠ none ∨ g.P a = none
  nd : ρ.Nodup
  cl : ρ.length = st.om.length
  cell : ∀ (n : Nat) (c : Cell) (a : Addr), st.om[n]? = some c → ρ[n]? = some a → ∃ o, H a = some o ∧ CellR K B ρ c o
  cellN : ∀ a ∈ ρ, B a = none ∧ g.P a = none
  slot : ∀ (i : Nat) (v : Vl), st.env[i]? = some (some v) → ∃ x, σ[i]? = some (some x) ∧ VlR K B ρ H x v
  own : ∀ (i : Nat) (ds : List D) (p : Addr), st.env[i]? = some (some (.ow ds)) → σ[i]? = some (some (.ref p)) → B p = none ∧ g.P p = none ∧ p ∉ ρ
  uni : ∀ (i j : Nat) (ds es : List D) (p : Addr), st.env[i]? = some (some (.ow ds)) → st.env[j]? = some (some (.ow es)) → σ[i]? = some (some (.ref p)) → σ[j]? = some (some (.ref p)) → i = j
  old : Sub g.B0 B
/-- p is ours alone, in no slot -/
structure Lone (g : Gx) (B : Hp) (ρ : List Addr) (st : St) (σ : L2.St) (p : Addr) : Prop where
  nb : B p = none
  np : g.P p = none
  nc : p ∉ ρ
  ns : ∀ (i : Nat) (ds : List D), st.env[i]? = some (some (.ow ds)) → σ[i]? ≠ some (some (.ref p))
/-- an expression's value -/
def OutR (K : PySem.W.Frag) (g : Gx) (B : Hp) (ρ : List Addr) (st : St) (σ : L2.St) (H : Hp) (x : V) (v : Vl) : Prop :=
  match v with
  | .sh d => Rep K B ρ x d
  | .ow ds => ∃ p vs, x = .ref p ∧ H p = some (.lst vs) ∧ Reps K B ρ vs ds ∧ Lone g B ρ st σ p

section
variable {K : PySem.W.Frag} {g : Gx} {B B' : Hp} {ρ ρ' : List Addr} {st : St} {σ : L2.St} {H H' : Hp} {p : Addr} {o : HO}
theorem CellR.mono {c : Cell} (e : Sub B B') (q : Pre ρ ρ') (h : CellR K B ρ c o) : CellR K B' ρ' c o := by
  cases c with
  | lst ds =>
    obtain ⟨vs, h1, h2⟩ := h
    exact ⟨vs, h1, h2.mono e q⟩
  | dK kvs =>
    obtain ⟨kws, h1, h2⟩ := h
    exact ⟨kws, h1, Paired.mapP h2 fun _ _ z => ⟨z.1, z.2.mono e q⟩⟩
theorem sub_upd (h : B p = none) : Sub B (upd B p o) := fun a u e => by
  rw [upd_ne (ne_of_none e h)]
  exact e
theorem Rel.noB (r : Rel K g B ρ st σ H) (h : H p = none) : B p = none := by
  cases e : B p with
  | none => rfl
  | some u =>
    have := r.sub _ _ e
    rw [h] at this
    cases this
theorem Rel.noP (r : Rel K g B ρ st σ H) (h : H p = none) : g.P p = none := by
  cases e : g.P p with
  | none => rfl
  | some u =>
    have := r.prot _ _ e
    rw [h] at this
    cases this
theorem Rel.noC (r : Rel K g B ρ st σ H) (h : H p = none) : p ∉ ρ := fun hm => by
  obtain ⟨n, hn⟩ := List.mem_iff_getElem?.mp hm
  have hl : n < st.om.length := by
    rw [← r.cl]
    exact (List.getElem?_eq_some_iff.mp hn).1
  obtain ⟨u, hu, _⟩ := r.cell n _ p (List.getElem?_eq_getElem hl) hn
  rw [h] at hu
  cases hu
theorem Rel.ownH (r : Rel K g B ρ st σ H) {i : Nat} {ds : List D} (h : st.env[i]? = some (some (.ow ds))) : ∃ p vs, σ[i]? = some (some (.ref p)) ∧ H p = some (.lst vs) ∧ Reps K B ρ vs ds := by
  obtain ⟨x, h1, p, vs, rfl, h3, h4⟩ := r.slot i _ h
  exact ⟨p, vs, h1, h3, h4⟩
theorem Rel.lone (r : Rel K g B ρ st σ H) (h : H p = none) : Lone g B ρ st σ p := ⟨r.noB h, r.noP h, r.noC h, fun i ds e z => by
  obtain ⟨q, vs, h1, h2, _⟩ := r.ownH e
  rw [z] at h1
  cases h1
  rw [h] at h2
  cases h2⟩
/-- anything new that we do not yet know, or a change of what is ours alone -/
theorem Rel.put (r : Rel K g B ρ st σ H) (l : Lone g B ρ st σ p) : Rel K g B ρ st σ (upd H p o) where
  len := r.len
  sub := fun a u e => by
    rw [upd_ne (ne_of_none e l.nb)]
    exact r.sub a u e
  prot := fun a u e => by
    rw [upd_ne (ne_of_none e l.np)]
    exact r.prot a u e
  new := r.new
  nd := r.nd
  cl := r.cl
  cell := fun n c a h1 h2 => by
    have na : a ≠ p := fun z => l.nc (z ▸ List.mem_iff_getElem?.mpr ⟨n, h2⟩)
    rw [upd_ne na]
    exact r.cell n c a h1 h2
  cellN := r.cellN
  slot := fun i v e => by
    obtain ⟨x, h1, h2⟩ := r.slot i v e
    refine ⟨x, h1, ?_⟩
    cases v with
    | sh d => exact h2
    | ow ds =>
      obtain ⟨q, vs, rfl, h4, h5⟩ := h2
      have nq : q ≠ p := fun z => l.ns i ds e (z ▸ h1)
      exact ⟨q, vs, rfl, by rw [upd_ne nq]; exact h4, h5⟩
  own := r.own
  uni := r.uni
  old := r.old
/-- what is ours alone is known from now on -/
theorem Rel.know (r : Rel K g B ρ st σ H) (l : Lone g B ρ st σ p) (h : H p = some o) : Rel K g (upd B p o) ρ st σ H := by
  have e : Sub B (upd B p o) := sub_upd l.nb
  refine ⟨r.len, fun a u z => ?_, r.prot, fun a z => ?_, r.nd, r.cl, fun n c a h1 h2 => ?_, fun a ha => ?_, fun i v z => ?_, fun i ds q h1 h2 => ?_, r.uni, r.old.trans e⟩
  · by_cases ha : a = p
    · rw [ha] at z ⊢
      rw [upd_same] at z
      rw [h]
      exact z
    · rw [upd_ne ha] at z
      exact r.sub a u z
  · by_cases ha : a = p
    · rw [ha]
      exact .inr l.np
    · rw [upd_ne ha] at z
      exact r.new a z
  · obtain ⟨u, hu, hc⟩ := r.cell n c a h1 h2
    exact ⟨u, hu, hc.mono e (Pre.refl _)⟩
  · have na : a ≠ p := fun z => l.nc (z ▸ ha)
    rw [upd_ne na]
    exact r.cellN a ha
  · obtain ⟨x, h1, h2⟩ := r.slot i v z
    refine ⟨x, h1, ?_⟩
    cases v with
    | sh d => exact h2.mono e (Pre.refl _)
    | ow ds =>
      obtain ⟨q, vs, h3, h4, h5⟩ := h2
      exact ⟨q, vs, h3, h4, h5.mono e (Pre.refl _)⟩
  · have nq : q ≠ p := fun z => l.ns i ds h1 (z ▸ h2)
    rw [upd_ne nq]
    exact r.own i ds q h1 h2
/-- a new thing that never changes -/
theorem Rel.imm (r : Rel K g B ρ st σ H) (h : H p = none) : Rel K g (upd B p o) ρ st σ (upd H p o) :=
  (r.put (r.lone h)).know (r.lone h) upd_same
theorem Sub.new (r : Rel K g B ρ st σ H) (h : H p = none) : Sub B (upd B p o) := sub_upd (r.noB h)

theorem getElem?_set' {α : Type} (l : List α) (i j : Nat) (x : α) : (l.set i x)[j]? = if i = j then (if i < l.length then some x else none) else l[j]? := by
  rw [List.getElem?_set]

/-- a slot takes a value -/
theorem Rel.setSlot (r : Rel K g B ρ st σ H) {i : Nat} {v : Vl} {x : V} (hi : i < st.env.length) (h : OutR K g B ρ st σ H x v) :
    Rel K g B ρ { st with env := st.env.set i (some v) } (σ.set i (some x)) H := by
  have hσ : i < σ.length := r.len ▸ hi
  have eE : ∀ j, (st.env.set i (some v))[j]? = if i = j then some (some v) else st.env[j]? := fun j => by
    rw [getElem?_set', if_pos hi]
  have eS : ∀ j, (σ.set i (some x))[j]? = if i = j then some (some x) else σ[j]? := fun j => by
    rw [getElem?_set', if_pos hσ]
  refine ⟨by simpa using r.len, r.sub, r.prot, r.new, r.nd, r.cl, r.cell, r.cellN, fun j w e => ?_, fun j ds q e1 e2 => ?_, fun j k ds es q e1 e2 e3 e4 => ?_, r.old⟩
  · have e' := (eE j).symm.trans e
    rw [eS]
    by_cases hj : i = j
    · rw [if_pos hj] at e' ⊢
      have ew : v = w := Option.some.inj (Option.some.inj e')
      subst ew
      refine ⟨x, rfl, ?_⟩
      cases v with
      | sh d => exact h
      | ow ds =>
        obtain ⟨q, vs, h1, h2, h3, _⟩ := h
        exact ⟨q, vs, h1, h2, h3⟩
    · rw [if_neg hj] at e' ⊢
      exact r.slot j w e'
  · have e1' := (eE j).symm.trans e1
    have e2' := (eS j).symm.trans e2
    by_cases hj : i = j
    · rw [if_pos hj] at e1' e2'
      have ew : v = .ow ds := Option.some.inj (Option.some.inj e1')
      subst ew
      obtain ⟨q', vs, h1, h2, h3, l⟩ := h
      have ex : x = .ref q := Option.some.inj (Option.some.inj e2')
      rw [h1] at ex
      cases ex
      exact ⟨l.nb, l.np, l.nc⟩
    · rw [if_neg hj] at e1' e2'
      exact r.own j ds q e1' e2'
  · have e1' := (eE j).symm.trans e1
    have e2' := (eE k).symm.trans e2
    have e3' := (eS j).symm.trans e3
    have e4' := (eS k).symm.trans e4
    by_cases hj : i = j
    · by_cases hk : i = k
      · omega
      · rw [if_pos hj] at e1' e3'
        rw [if_neg hk] at e2' e4'
        have ew : v = .ow ds := Option.some.inj (Option.some.inj e1')
        subst ew
        obtain ⟨q', vs, h1, h2, h3, l⟩ := h
        have ex : x = .ref q := Option.some.inj (Option.some.inj e3')
        rw [h1] at ex
        cases ex
        exact absurd e4' (l.ns k es e2')
    · by_cases hk : i = k
      · rw [if_neg hj] at e1' e3'
        rw [if_pos hk] at e2' e4'
        have ew : v = .ow es := Option.some.inj (Option.some.inj e2')
        subst ew
        obtain ⟨q', vs, h1, h2, h3, l⟩ := h
        have ex : x = .ref q := Option.some.inj (Option.some.inj e4')
        rw [h1] at ex
        cases ex
        exact absurd e3' (l.ns j ds e1')
      · rw [if_neg hj] at e1' e3'
        rw [if_neg hk] at e2' e4'
        exact r.uni j k ds es q e1' e2' e3' e4'
/-- a slot is told no more -/
theorem Rel.forget (r : Rel K g B ρ st σ H) {i : Nat} : Rel K g B ρ { st with env := st.env.set i none } σ H := by
  have eE : ∀ j v, (st.env.set i none)[j]? = some (some v) → i ≠ j ∧ st.env[j]? = some (some v) := fun j v e => by
    rw [getElem?_set'] at e
    by_cases hj : i = j
    · rw [if_pos hj] at e
      split at e
      · cases e
      · cases e
    · rw [if_neg hj] at e
      exact ⟨hj, e⟩
  refine ⟨by simpa using r.len, r.sub, r.prot, r.new, r.nd, r.cl, r.cell, r.cellN, fun j w e => r.slot j w (eE j w e).2, fun j ds q e1 e2 => r.own j ds q (eE j _ e1).2 e2, fun j k ds es q e1 e2 e3 e4 => r.uni j k ds es q (eE j _ e1).2 (eE k _ e2).2 e3 e4, r.old⟩
/-- our own list in slot i goes out of the slot -/
theorem Rel.takeOut (r : Rel K g B ρ st σ H) {i : Nat} {ds : List D} (e : st.env[i]? = some (some (.ow ds))) {p : Addr} (hp : σ[i]? = some (some (.ref p))) :
    Lone g B ρ { st with env := st.env.set i none } σ p := by
  obtain ⟨h1, h2, h3⟩ := r.own i ds p e hp
  refine ⟨h1, h2, h3, fun j es ej ej2 => ?_⟩
  have ej' : (st.env.set i none)[j]? = some (some (Vl.ow es)) := ej
  rw [getElem?_set'] at ej'
  by_cases hj : i = j
  · rw [if_pos hj] at ej'
    split at ej' <;> cases ej'
  · rw [if_neg hj] at ej'
    exact hj (r.uni i j ds es p e ej' hp ej2)
/-- .. comes back, changed -/
theorem Rel.backIn {i : Nat} (r : Rel K g B ρ { st with env := st.env.set i none } σ H) {ds : List D} {vs : List V} {p : Addr} (hi : i < st.env.length) (hp : σ[i]? = some (some (.ref p)))
    (l : Lone g B ρ { st with env := st.env.set i none } σ p) (h : H p = some (.lst vs)) (q : Reps K B ρ vs ds) : Rel K g B ρ { st with env := st.env.set i (some (.ow ds)) } σ H := by
  have z := r.setSlot (i := i) (v := .ow ds) (x := .ref p) (by simpa using hi) ⟨p, vs, rfl, h, q, l⟩
  have e : (σ.set i (some (V.ref p))) = σ := by
    apply List.ext_getElem?
    intro j
    rw [getElem?_set']
    by_cases hj : i = j
    · rw [if_pos hj, if_pos (by rw [← r.len]; simpa using hi), ← hj, hp]
    · rw [if_neg hj]
  rw [e] at z
  have e2 : ((st.env.set i none).set i (some (Vl.ow ds))) = st.env.set i (some (.ow ds)) := List.set_set _
  have e3 : ({ env := (st.env.set i none).set i (some (Vl.ow ds)), om := st.om } : St) = { st with env := st.env.set i (some (.ow ds)) } := congrArg (fun e => ({ env := e, om := st.om } : St)) e2
  have z' : Rel K g B ρ { env := (st.env.set i none).set i (some (Vl.ow ds)), om := st.om } σ H := z
  rw [e3] at z'
  exact z'
/-- a new cell -/
theorem Rel.newCell (r : Rel K g B ρ st σ H) (l : Lone g B ρ st σ p) {c : Cell} (h : H p = some o) (hc : CellR K B ρ c o) : Rel K g B (ρ ++ [p]) { st with om := st.om ++ [c] } σ H := by
  have q : Pre ρ (ρ ++ [p]) := Pre.push ρ p
  refine ⟨r.len, r.sub, r.prot, r.new, ?_, by simp [r.cl], fun n c' a h1 h2 => ?_, fun a ha => ?_, fun i v e => ?_, fun i ds a e1 e2 => ?_, r.uni, r.old⟩
  · rw [List.nodup_append]
    refine ⟨r.nd, by simp, fun a ha b hb => ?_⟩
    have hb' : b = p := by simpa using hb
    rw [hb']
    exact fun z => l.nc (z ▸ ha)
  · have h1' : (st.om ++ [c])[n]? = some c' := h1
    by_cases hn : n < st.om.length
    · rw [List.getElem?_append_left hn] at h1'
      rw [List.getElem?_append_left (by rw [r.cl]; exact hn)] at h2
      obtain ⟨u, hu, z⟩ := r.cell n c' a h1' h2
      exact ⟨u, hu, z.mono (Sub.refl _) q⟩
    · rw [List.getElem?_append_right (by omega)] at h1'
      rw [List.getElem?_append_right (by rw [r.cl]; omega)] at h2
      have hn0 : n - st.om.length = 0 := by
        have := (List.getElem?_eq_some_iff.mp h1').1
        simp at this
        omega
      rw [hn0] at h1'
      rw [r.cl, hn0] at h2
      have e1 : c = c' := Option.some.inj h1'
      have e2 : p = a := Option.some.inj h2
      rw [← e1, ← e2]
      exact ⟨o, h, hc.mono (Sub.refl _) q⟩
  · rcases List.mem_append.mp ha with z | z
    · exact r.cellN a z
    · have z' : a = p := by simpa using z
      rw [z']
      exact ⟨l.nb, l.np⟩
  · obtain ⟨x, h1, h2⟩ := r.slot i v e
    refine ⟨x, h1, ?_⟩
    cases v with
    | sh d => exact h2.mono (Sub.refl _) q
    | ow ds =>
      obtain ⟨a, vs, h3, h4, h5⟩ := h2
      exact ⟨a, vs, h3, h4, h5.mono (Sub.refl _) q⟩
  · obtain ⟨h1, h2, h3⟩ := r.own i ds a e1 e2
    refine ⟨h1, h2, fun z => ?_⟩
    rcases List.mem_append.mp z with z | z
    · exact h3 z
    · have z' : a = p := by simpa using z
      exact l.ns i ds e1 (z' ▸ e2)
/-- a cell changes -/
theorem Rel.setCell (r : Rel K g B ρ st σ H) {n : Nat} {a : Addr} {c : Cell} (ha : ρ[n]? = some a) (hc : CellR K B ρ c o) : Rel K g B ρ { st with om := st.om.set n c } σ (upd H a o) := by
  have hm : a ∈ ρ := List.mem_iff_getElem?.mpr ⟨n, ha⟩
  obtain ⟨nb, np⟩ := r.cellN a hm
  have hn : n < st.om.length := by
    rw [← r.cl]
    exact (List.getElem?_eq_some_iff.mp ha).1
  refine ⟨r.len, fun b u e => ?_, fun b u e => ?_, r.new, r.nd, by simpa using r.cl, fun k c' b h1 h2 => ?_, r.cellN, fun i v e => ?_, r.own, r.uni, r.old⟩
  · rw [upd_ne (ne_of_none e nb)]
    exact r.sub b u e
  · rw [upd_ne (ne_of_none e np)]
    exact r.prot b u e
  · have h1' : (st.om.set n c)[k]? = some c' := h1
    rw [getElem?_set'] at h1'
    by_cases hk : n = k
    · rw [if_pos hk, if_pos hn] at h1'
      have e1 : c = c' := Option.some.inj h1'
      rw [← hk, ha] at h2
      have e2 : a = b := Option.some.inj h2
      rw [← e1, ← e2, upd_same]
      exact ⟨o, rfl, hc⟩
    · rw [if_neg hk] at h1'
      have hab : b ≠ a := fun z => hk (nd_ix r.nd ha (z ▸ h2))
      rw [upd_ne hab]
      exact r.cell k c' b h1' h2
  · obtain ⟨x, h1, h2⟩ := r.slot i v e
    refine ⟨x, h1, ?_⟩
    cases v with
    | sh d => exact h2
    | ow ds =>
      obtain ⟨q, vs, h3, h4, h5⟩ := h2
      subst h3
      have hq : q ≠ a := fun z => (r.own i ds q e h1).2.2 (z ▸ hm)
      exact ⟨q, vs, rfl, by rw [upd_ne hq]; exact h4, h5⟩
end

/-! ### what is watched for a while; a call; a def's entry and end -/
section
variable {K : PySem.W.Frag} {g : Gx} {B B' : Hp} {ρ ρ' : List Addr} {st : St} {σ : L2.St} {H H' : Hp} {p : Addr} {o : HO}
/-- what is ours alone, watched -/
def Gx.guard (g : Gx) (p : Addr) (o : HO) : Gx := ⟨g.B0, upd g.P p o⟩
theorem Rel.guard (r : Rel K g B ρ st σ H) (l : Lone g B ρ st σ p) (h : H p = some o) : Rel K (g.guard p o) B ρ st σ H := by
  refine ⟨r.len, r.sub, fun a u e => ?_, fun a ha => ?_, r.nd, r.cl, r.cell, fun a ha => ⟨(r.cellN a ha).1, ?_⟩, r.slot, fun i ds q h1 h2 => ?_, r.uni, r.old⟩
  · have e' : upd g.P p o a = some u := e
    by_cases hb : a = p
    · rw [hb, upd_same] at e'
      rw [hb, h]
      exact e'
    · rw [upd_ne hb] at e'
      exact r.prot a u e'
  · have na : a ≠ p := fun z => ha (z ▸ l.nb)
    rcases r.new a ha with z | z
    · exact .inl z
    · refine .inr ?_
      show upd g.P p o a = none
      rw [upd_ne na]
      exact z
  · have na : a ≠ p := fun z => l.nc (z ▸ ha)
    show upd g.P p o a = none
    rw [upd_ne na]
    exact (r.cellN a ha).2
  · obtain ⟨z1, z2, z3⟩ := r.own i ds q h1 h2
    have nq : q ≠ p := fun z => l.ns i ds h1 (z ▸ h2)
    refine ⟨z1, ?_, z3⟩
    show upd g.P p o q = none
    rw [upd_ne nq]
    exact z2
theorem Rel.unguard (r : Rel K (g.guard p o) B ρ st σ H) (h0 : g.B0 p = none) (hp : g.P p = none) : Rel K g B ρ st σ H ∧ H p = some o ∧ Lone g B ρ st σ p := by
  have hgp : (g.guard p o).P p = some o := upd_same
  have hne : ∀ a, (g.guard p o).P a = none → a ≠ p := fun a e z => by
    rw [z, hgp] at e
    cases e
  have hP : ∀ a, (g.guard p o).P a = none → g.P a = none := fun a e => by
    have e' : upd g.P p o a = none := e
    rwa [upd_ne (hne a e)] at e'
  have hb : B p = none := by
    cases e : B p with
    | none => rfl
    | some u =>
      rcases r.new p (by rw [e]; exact fun z => nomatch z) with z | z
      · exact absurd h0 z
      · exact absurd rfl (hne p z)
  refine ⟨⟨r.len, r.sub, fun a u e => ?_, fun a ha => ?_, r.nd, r.cl, r.cell, fun a ha => ⟨(r.cellN a ha).1, hP a (r.cellN a ha).2⟩, r.slot, fun i ds q h1 h2 => ?_, r.uni, r.old⟩, r.prot p o hgp, hb, hp, fun hm => hne p (r.cellN p hm).2 rfl, fun i ds e e2 => hne p (r.own i ds p e e2).2.1 rfl⟩
  · refine r.prot a u ?_
    show upd g.P p o a = some u
    rw [upd_ne (ne_of_none e hp)]
    exact e
  · rcases r.new a ha with z | z
    · exact .inl z
    · exact .inr (hP a z)
  · obtain ⟨z1, z2, z3⟩ := r.own i ds q h1 h2
    exact ⟨z1, hP q z2, z3⟩
theorem Lone.no0 (r : Rel K g B ρ st σ H) (l : Lone g B ρ st σ p) : g.B0 p = none := by
  cases e : g.B0 p with
  | none => rfl
  | some u =>
    have := r.old _ _ e
    rw [l.nb] at this
    cases this
/-- all but the cells -/
def hide (ρ : List Addr) (H : Hp) : Hp := fun a => if a ∈ ρ then none else H a
theorem hide_of {a : Addr} (h : a ∉ ρ) : hide ρ H a = H a := if_neg h
theorem hide_in {a : Addr} (h : a ∈ ρ) : hide ρ H a = none := if_pos h
theorem hide_sub : Sub (hide ρ H) H := fun a o e => by
  by_cases h : a ∈ ρ
  · rw [hide_in h] at e
    cases e
  · rwa [hide_of h] at e
/-- what a callee gets: no slots -/
def callG (B : Hp) (ρ : List Addr) (H : Hp) : Gx := ⟨B, hide ρ H⟩
theorem Rel.toCall (r : Rel K g B ρ st σ H) : Rel K (callG B ρ H) B ρ ⟨[], st.om⟩ [] H :=
  ⟨rfl, r.sub, hide_sub, fun a ha => .inl ha, r.nd, r.cl, r.cell, fun a ha => ⟨(r.cellN a ha).1, hide_in ha⟩, fun i v e => by simp at e, fun i ds p e _ => by simp at e, fun i j ds es p e _ _ _ => by simp at e, Sub.refl B⟩
/-- what it leaves -/
theorem Rel.ofCall {om' : List Cell} (r : Rel K g B ρ st σ H) (m : Pre ρ ρ') (c : Rel K (callG B ρ H) B' ρ' ⟨[], om'⟩ [] H') : Rel K g B' ρ' { st with om := om' } σ H' := by
  have b : Sub B B' := c.old
  have keep : ∀ a, a ∉ ρ → ∀ u, H a = some u → H' a = some u := fun a ha u e => c.prot a u (by show hide ρ H a = some u; rw [hide_of ha]; exact e)
  have fresh : ∀ a, (callG B ρ H).P a = none → a ∈ ρ ∨ H a = none := fun a e => by
    by_cases h : a ∈ ρ
    · exact .inl h
    · refine .inr ?_
      have e' : hide ρ H a = none := e
      rwa [hide_of h] at e'
  have noP : ∀ a, H a = none → g.P a = none := fun a e => by
    cases q : g.P a with
    | none => rfl
    | some u =>
      have := r.prot _ _ q
      rw [e] at this
      cases this
  refine ⟨r.len, c.sub, fun a u e => ?_, fun a ha => ?_, c.nd, c.cl, c.cell, fun a ha => ⟨(c.cellN a ha).1, ?_⟩, fun i v e => ?_, fun i ds q e1 e2 => ?_, r.uni, r.old.trans b⟩
  · have na : a ∉ ρ := fun z => by
      rw [(r.cellN a z).2] at e
      cases e
    exact keep a na u (r.prot a u e)
  · rcases c.new a ha with z | z
    · exact r.new a z
    · rcases fresh a z with z | z
      · exact absurd ((c.cellN a (m.mem z)).1) ha
      · exact .inr (noP a z)
  · rcases fresh a (c.cellN a ha).2 with z | z
    · exact (r.cellN a z).2
    · exact noP a z
  · obtain ⟨x, h1, h2⟩ := r.slot i v e
    refine ⟨x, h1, ?_⟩
    cases v with
    | sh d => exact h2.mono b m
    | ow ds =>
      obtain ⟨q, vs, h3, h4, h5⟩ := h2
      subst h3
      exact ⟨q, vs, rfl, keep q (r.own i ds q e h1).2.2 _ h4, h5.mono b m⟩
  · obtain ⟨z1, z2, z3⟩ := r.own i ds q e1 e2
    obtain ⟨q', vs, h1, h2, _⟩ := r.ownH e1
    rw [h1] at e2
    cases e2
    have hH : H q ≠ none := by
      rw [h2]
      exact fun z => nomatch z
    refine ⟨?_, z2, fun z => ?_⟩
    · cases e : B' q with
      | none => rfl
      | some u =>
        rcases c.new q (by rw [e]; exact fun z => nomatch z) with z | z
        · exact absurd z1 z
        · rcases fresh q z with z | z
          · exact absurd z z3
          · exact absurd z hH
    · rcases fresh q (c.cellN q z).2 with z | z
      · exact absurd z z3
      · exact absurd z hH
theorem OutR.ofCall {om' : List Cell} {x : V} {v : Vl} (r : Rel K g B ρ st σ H) (m : Pre ρ ρ') (c : Rel K (callG B ρ H) B' ρ' ⟨[], om'⟩ [] H') (h : OutR K (callG B ρ H) B' ρ' ⟨[], om'⟩ [] H' x v) : OutR K g B' ρ' { st with om := om' } σ H' x v := by
  cases v with
  | sh d => exact h
  | ow ds =>
    obtain ⟨p, vs, h1, h2, h3, l⟩ := h
    refine ⟨p, vs, h1, h2, h3, l.nb, ?_, l.nc, fun i es e1 e2 => ?_⟩
    · by_cases hp : p ∈ ρ
      · exact absurd (m.mem hp) l.nc
      · have e : hide ρ H p = none := l.np
        rw [hide_of hp] at e
        cases q : g.P p with
        | none => rfl
        | some u =>
          have := r.prot _ _ q
          rw [e] at this
          cases this
    · have e1' : st.env[i]? = some (some (.ow es)) := e1
      obtain ⟨q', ws, h4, h5, _⟩ := r.ownH e1'
      rw [h4] at e2
      cases e2
      have z3 := (r.own i es p e1' h4).2.2
      have e : hide ρ H p = none := l.np
      rw [hide_of z3, h5] at e
      cases e
/-- a def's slots at the entry -/
theorem Rel.enter {N : List Str} {vs : List V} {ds : List D} {om : List Cell} (r : Rel K g B ρ ⟨[], om⟩ [] H) (h : Reps K B ρ vs ds) : Rel K g B ρ { env := (ds.map fun d => some (Vl.sh d)) ++ List.replicate (N.length - ds.length) none, om := om } (L2.start N vs) H := by
  have hl := h.length
  have key : ∀ i v, ((ds.map fun d => some (Vl.sh d)) ++ List.replicate (N.length - ds.length) none)[i]? = some (some v) → ∃ d, v = Vl.sh d ∧ ds[i]? = some d := fun i v e => by
    by_cases hi : i < ds.length
    · rw [List.getElem?_append_left (by simpa using hi), List.getElem?_map] at e
      rw [List.getElem?_eq_getElem hi] at e
      simp only [Option.map_some, Option.some.injEq] at e
      exact ⟨_, e.symm, List.getElem?_eq_getElem hi⟩
    · rw [List.getElem?_append_right (by simpa using hi)] at e
      have := List.mem_iff_getElem?.mpr ⟨_, e⟩
      have := (List.mem_replicate.mp this).2
      cases this
  refine ⟨?_, r.sub, r.prot, r.new, r.nd, r.cl, r.cell, r.cellN, fun i v e => ?_, fun i es p e _ => ?_, fun i j es fs p e _ _ _ => ?_, r.old⟩
  · show ((ds.map fun d => some (Vl.sh d)) ++ List.replicate (N.length - ds.length) none).length = (vs.map some ++ List.replicate (N.length - vs.length) none).length
    simp [hl]
  · obtain ⟨d, rfl, hd⟩ := key i v e
    obtain ⟨x, h1, h2⟩ := h.get hd
    refine ⟨x, ?_, h2⟩
    show (vs.map some ++ List.replicate (N.length - vs.length) none)[i]? = some (some x)
    have hi : i < vs.length := (List.getElem?_eq_some_iff.mp h1).1
    rw [List.getElem?_append_left (by simpa using hi), List.getElem?_map, h1]
    rfl
  · obtain ⟨d, h1, _⟩ := key i _ e
    cases h1
  · obtain ⟨d, h1, _⟩ := key i _ e
    cases h1
/-- .. at the end -/
theorem Rel.leave (r : Rel K g B ρ st σ H) : Rel K g B ρ ⟨[], st.om⟩ [] H :=
  ⟨rfl, r.sub, r.prot, r.new, r.nd, r.cl, r.cell, r.cellN, fun i v e => by simp at e, fun i ds p e _ => by simp at e, fun i j ds es p e _ _ _ => by simp at e, r.old⟩
theorem OutR.leave {x : V} {v : Vl} (h : OutR K g B ρ st σ H x v) : OutR K g B ρ ⟨[], st.om⟩ [] H x v := by
  cases v with
  | sh d => exact h
  | ow ds =>
    obtain ⟨p, vs, h1, h2, h3, l⟩ := h
    exact ⟨p, vs, h1, h2, h3, l.nb, l.np, l.nc, fun i ds e => by simp at e⟩
end

/-! ### what a part gives -/
structure Mono (B : Hp) (ρ : List Addr) (B' : Hp) (ρ' : List Addr) : Prop where
  b : Sub B B'
  r : Pre ρ ρ'
theorem Mono.refl (B : Hp) (ρ : List Addr) : Mono B ρ B ρ := ⟨Sub.refl B, Pre.refl ρ⟩
theorem Mono.trans {B B1 B2 : Hp} {ρ ρ1 ρ2 : List Addr} (a : Mono B ρ B1 ρ1) (b : Mono B1 ρ1 B2 ρ2) : Mono B ρ B2 ρ2 := ⟨a.b.trans b.b, a.r.trans b.r⟩
theorem Rep.up {K : PySem.W.Frag} {B B' : Hp} {ρ ρ' : List Addr} {v : V} {d : D} (r : Rep K B ρ v d) (m : Mono B ρ B' ρ') : Rep K B' ρ' v d := r.mono m.b m.r
theorem Reps.up {K : PySem.W.Frag} {B B' : Hp} {ρ ρ' : List Addr} {v : List V} {d : List D} (r : Reps K B ρ v d) (m : Mono B ρ B' ρ') : Reps K B' ρ' v d := r.mono m.b m.r

/-- an exception, its class cls and dict d: one of the classes that the table T names -/
abbrev XT := Str → Option Addr
def XcR (K : PySem.W.Frag) (T : XT) (B : Hp) (ρ : List Addr) (H : Hp) (x : Xc) (cls : Value) (d : Option Addr) : Prop :=
  ∃ C, T x.cls = some C ∧ cls = .ref C ∧ ((x.fs = [] ∧ d = none) ∨ ∃ a kws, d = some a ∧ B a = some (.xd kws) ∧ Paired (fun (p : Str × V) (q : Str × D) => p.1 = q.1 ∧ Rep K B ρ p.2 q.2) kws x.fs)

section
variable (K : PySem.W.Frag) (T : XT) (W : WX) (g : Gx)
/-- a part's end r, told of the reading U: O says what of the value -/
def Res {α β : Type} (B : Hp) (ρ : List Addr) (σ : L2.St) (U : (β → Hp → Prop) → Prop) (O : α → Hp → List Addr → St → Hp → β → Prop) (r : R α) : Prop :=
  match r with
  | .ok a st' => ∀ Q : β → Hp → Prop, (∀ B' ρ' x H', Mono B ρ B' ρ' → Rel K g B' ρ' st' σ H' → O a B' ρ' st' H' x → Q x H') → U Q
  | .ex xc st' => ∀ Q : β → Hp → Prop, (∀ B' ρ' cls d H', Mono B ρ B' ρ' → Rel K g B' ρ' st' σ H' → XcR K T B' ρ' H' xc cls d → W cls d σ H') → U Q
  | .no => True
end
section
variable {K : PySem.W.Frag} {T : XT} {W : WX} {g : Gx} {B : Hp} {ρ : List Addr} {σ : L2.St} {α β α' β' : Type}
theorem Res.bind {U : (β → Hp → Prop) → Prop} {O : α → Hp → List Addr → St → Hp → β → Prop} {r : R α} {U2 : β → Hp → (β' → Hp → Prop) → Prop} {O2 : α' → Hp → List Addr → St → Hp → β' → Prop} {f : α → St → R α'}
    (h : Res K T W g B ρ σ U O r) (h2 : ∀ a st' B' ρ' x H', r = .ok a st' → Mono B ρ B' ρ' → Rel K g B' ρ' st' σ H' → O a B' ρ' st' H' x → Res K T W g B' ρ' σ (U2 x H') O2 (f a st')) :
    Res K T W g B ρ σ (fun Q => U fun x H' => U2 x H' Q) O2 (r.bind f) := by
  cases r with
  | no => trivial
  | ex xc st' => exact fun Q hQ => h _ hQ
  | ok a st' =>
    show Res K T W g B ρ σ (fun Q => U fun x H' => U2 x H' Q) O2 (f a st')
    cases e : f a st' with
    | no => trivial
    | ex xc st2 =>
      intro Q hQ
      refine h _ fun B' ρ' x H' m r' o => ?_
      have z := h2 a st' B' ρ' x H' rfl m r' o
      rw [e] at z
      exact z Q fun B2 ρ2 cls d H2 m2 r2 o2 => hQ B2 ρ2 cls d H2 (m.trans m2) r2 o2
    | ok b st2 =>
      intro Q hQ
      refine h _ fun B' ρ' x H' m r' o => ?_
      have z := h2 a st' B' ρ' x H' rfl m r' o
      rw [e] at z
      exact z Q fun B2 ρ2 y H2 m2 r2 o2 => hQ B2 ρ2 y H2 (m.trans m2) r2 o2
theorem Res.imp {U : (β → Hp → Prop) → Prop} {O O' : α → Hp → List Addr → St → Hp → β → Prop} {r : R α} (h : Res K T W g B ρ σ U O r)
    (i : ∀ a st' B' ρ' x H', Rel K g B' ρ' st' σ H' → O a B' ρ' st' H' x → ∃ B2, Sub B' B2 ∧ Rel K g B2 ρ' st' σ H' ∧ O' a B2 ρ' st' H' x) : Res K T W g B ρ σ U O' r := by
  cases r with
  | no => trivial
  | ex xc st' => exact h
  | ok a st' =>
    intro Q hQ
    refine h Q fun B' ρ' x H' m r o => ?_
    obtain ⟨B2, s2, r2, o2⟩ := i a st' B' ρ' x H' r o
    exact hQ B2 ρ' x H' ⟨m.b.trans s2, m.r⟩ r2 o2
/-- an end at once -/
theorem Res.now {U : (β → Hp → Prop) → Prop} {O : α → Hp → List Addr → St → Hp → β → Prop} {a : α} {st' : St} {x : β} {B' : Hp} {ρ' : List Addr} {H' : Hp} (hU : ∀ Q : β → Hp → Prop, Q x H' → U Q) (m : Mono B ρ B' ρ') (r : Rel K g B' ρ' st' σ H') (o : O a B' ρ' st' H' x) :
    Res K T W g B ρ σ U O (.ok a st') := fun Q hQ => hU Q (hQ B' ρ' x H' m r o)
theorem Res.conv {U U' : (β → Hp → Prop) → Prop} {O : α → Hp → List Addr → St → Hp → β → Prop} {r : R α} (h : Res K T W g B ρ σ U O r) (i : ∀ Q, U Q → U' Q) : Res K T W g B ρ σ U' O r := by
  cases r with
  | no => trivial
  | ex xc st' => exact fun Q hQ => i Q (h Q hQ)
  | ok a st' => exact fun Q hQ => i Q (h Q hQ)
end
/-- values: OutR; shared: Rep of the value's datum -/
abbrev oV (K : PySem.W.Frag) (g : Gx) (σ : L2.St) : Vl → Hp → List Addr → St → Hp → V → Prop := fun v B ρ st H x => OutR K g B ρ st σ H x v
abbrev oD (K : PySem.W.Frag) : Vl → Hp → List Addr → St → Hp → V → Prop := fun v B ρ _ _ x => Rep K B ρ x v.d
abbrev oDs (K : PySem.W.Frag) : List D → Hp → List Addr → St → Hp → List V → Prop := fun ds B ρ _ _ xs => Reps K B ρ xs ds
abbrev oB : Bool → Hp → List Addr → St → Hp → Bool → Prop := fun b _ _ _ _ c => c = b
section
variable {K : PySem.W.Frag} {T : XT} {W : WX} {g : Gx} {B : Hp} {ρ : List Addr} {σ : L2.St}
theorem out_share {st : St} {H : Hp} {x : V} {v : Vl} (r : Rel K g B ρ st σ H) (o : OutR K g B ρ st σ H x v) : ∃ B2, Sub B B2 ∧ Rel K g B2 ρ st σ H ∧ Rep K B2 ρ x v.d := by
  cases v with
  | sh d => exact ⟨B, Sub.refl B, r, o⟩
  | ow ds =>
    obtain ⟨p, vs, rfl, h2, h3, l⟩ := o
    exact ⟨upd B p (.lst vs), sub_upd l.nb, r.know l h2, .lst upd_same (h3.mono (sub_upd l.nb) (Pre.refl _))⟩
theorem Res.share {U : VK → Prop} {r : R Vl} (h : Res K T W g B ρ σ U (oV K g σ) r) : Res K T W g B ρ σ U (oD K) r :=
  h.imp fun a st' B' ρ' x H' r o => out_share r o
end

/-! ### the judgements: a piece of syntax, its reading, its evaluator -/
section
variable (K : PySem.W.Frag) (T : XT) (W : WX)
def GoodE (t : TE) (e : EvE) : Prop := ∀ g B ρ st σ H, Rel K g B ρ st σ H → Res K T W g B ρ σ (t σ H) (oV K g σ) (e st)
def GoodT (t : TT) (e : EvT) : Prop := ∀ g B ρ st σ H, Rel K g B ρ st σ H → Res K T W g B ρ σ (t σ H) oB (e st)
def GoodA (t : TA) (e : EvA) : Prop := ∀ g B ρ st σ H, Rel K g B ρ st σ H → Res K T W g B ρ σ (t σ H) (oDs K) (e st)
end
section
variable {K : PySem.W.Frag} {T : XT} {W : WX}
theorem GoodE.share {t : TE} {e : EvE} (h : GoodE K T W t e) {g : Gx} {B : Hp} {ρ : List Addr} {st : St} {σ : L2.St} {H : Hp} (r : Rel K g B ρ st σ H) : Res K T W g B ρ σ (t σ H) (oD K) (e st) := (h g B ρ st σ H r).share
end
structure SE (X : Cx) (K : PySem.W.Frag) (T : XT) (W : WX) (e : Expr) (t : TE) (v : EvE) : Prop where
  pe : PE X e t
  good : GoodE K T W t v
structure ST (X : Cx) (K : PySem.W.Frag) (T : XT) (W : WX) (e : Expr) (t : TT) (v : EvT) : Prop where
  pe : PT X e t
  good : GoodT K T W t v
structure SA (X : Cx) (K : PySem.W.Frag) (T : XT) (W : WX) (es : List Expr) (t : TA) (v : EvA) : Prop where
  pe : PA X es t
  good : GoodA K T W t v
end Mini

set_option Elab.async false
set_option linter.all false
set_option maxRecDepth 100000
set_option maxHeartbeats 1000000
/-! PySE2: expressions. -/
namespace Mini
open PySem PySem.Spec PyProof.Rows L2

theorem set_self {α : Type} {l : List α} {i : Nat} {x : α} (h : l[i]? = some x) : l.set i x = l := by
  apply List.ext_getElem?
  intro j
  rw [getElem?_set']
  by_cases hj : i = j
  · rw [if_pos hj, if_pos (List.getElem?_eq_some_iff.mp h).1, ← hj, h]
  · rw [if_neg hj]
section
variable {K : PySem.W.Frag} {T : XT} {W : WX} {g : Gx} {B : Hp} {ρ : List Addr} {st : St} {σ : L2.St} {H : Hp}
/-- our own list in a slot is shared from now on -/
theorem Rel.freeze (r : Rel K g B ρ st σ H) {i : Nat} {ds : List D} (e : st.env[i]? = some (some (.ow ds))) :
    ∃ p B2, σ[i]? = some (some (.ref p)) ∧ Sub B B2 ∧ Rel K g B2 ρ { st with env := st.env.set i (some (.sh (.lst ds))) } σ H ∧ Rep K B2 ρ (.ref p) (.lst ds) := by
  obtain ⟨p, vs, h1, h2, h3⟩ := r.ownH e
  have l := r.takeOut e h1
  have r1 := (r.forget (i := i)).know l h2
  have rp : Rep K (upd B p (.lst vs)) ρ (.ref p) (.lst ds) := .lst upd_same (h3.mono (sub_upd l.nb) (Pre.refl _))
  have hi : i < st.env.length := (List.getElem?_eq_some_iff.mp e).1
  have r2 := r1.setSlot (i := i) (v := .sh (.lst ds)) (x := .ref p) (by simpa using hi) rp
  rw [set_self h1] at r2
  refine ⟨p, _, h1, sub_upd l.nb, ?_, rp⟩
  have e2 : ((st.env.set i none).set i (some (Vl.sh (.lst ds)))) = st.env.set i (some (.sh (.lst ds))) := List.set_set _
  have e3 : ({ env := (st.env.set i none).set i (some (Vl.sh (.lst ds))), om := st.om } : St) = { st with env := st.env.set i (some (.sh (.lst ds))) } := congrArg (fun e => ({ env := e, om := st.om } : St)) e2
  have r3 : Rel K g (upd B p (.lst vs)) ρ { env := (st.env.set i none).set i (some (Vl.sh (.lst ds))), om := st.om } σ H := r2
  rw [e3] at r3
  exact r3

/-! ### names and constants -/
theorem good_no {t : TE} : GoodE K T W t eNo := fun _ _ _ _ _ _ _ => trivial
theorem good_var {i : Nat} : GoodE K T W (tVar i) (eVar i) := by
  intro g B ρ st σ H r
  unfold eVar
  split
  · rename_i d h
    obtain ⟨x, h1, h2⟩ := r.slot i _ h
    exact Res.now (x := x) (fun Q q => ⟨x, h1, q⟩) (Mono.refl _ _) r h2
  · rename_i ds h
    obtain ⟨p, B2, h1, s2, r2, rp⟩ := r.freeze h
    exact Res.now (x := .ref p) (fun Q q => ⟨_, h1, q⟩) ⟨s2, Pre.refl _⟩ r2 rp
  · trivial
theorem good_c {v : V} {d : D} (h : ∀ B ρ, Rep K B ρ v d) : GoodE K T W (tC v) (eC d) := fun g B ρ st σ H r => Res.now (x := v) (fun Q q => q) (Mono.refl _ _) r (h B ρ)
theorem good_int {i : Int} : GoodE K T W (tC (.int i)) (eInt i) := good_c fun _ _ => .int i
theorem good_str {x : Str} : GoodE K T W (tC (.str x)) (eStr x) := good_c fun _ _ => .str x
theorem good_bl {b : Bool} : GoodE K T W (tC (.bl b)) (eC (.bl b)) := good_c fun _ _ => .bl b
theorem good_non : GoodE K T W (tC .non) (eC .non) := good_c fun _ _ => .non

/-! ### operators -/
/-- an operator's reading does what f says -/
def OpG (K : PySem.W.Frag) (r : R2) (f : Op2) : Prop := ∀ g B ρ st σ H x y d e v, Rel K g B ρ st σ H → Rep K B ρ x d → Rep K B ρ y e → f d e = some v →
  ∀ Q : VK, (∀ B' x' H', Sub B B' → Rel K g B' ρ st σ H' → OutR K g B' ρ st σ H' x' v → Q x' H') → r x y H Q
def UnG (K : PySem.W.Frag) (r : V → Hp → VK → Prop) (f : Op1) : Prop := ∀ g B ρ st σ H x d v, Rel K g B ρ st σ H → Rep K B ρ x d → f d = some v →
  ∀ Q : VK, (∀ B' x' H', Sub B B' → Rel K g B' ρ st σ H' → OutR K g B' ρ st σ H' x' v → Q x' H') → r x H Q
def CallG (K : PySem.W.Frag) (r : List V → Hp → VK → Prop) (f : OpA) : Prop := ∀ g B ρ st σ H xs ds v, Rel K g B ρ st σ H → Reps K B ρ xs ds → f ds = some v →
  ∀ Q : VK, (∀ B' x' H', Sub B B' → Rel K g B' ρ st σ H' → OutR K g B' ρ st σ H' x' v → Q x' H') → r xs H Q
variable {ta tb tc : TE} {a b c : EvE}
theorem good_op {r : R2} {f : Op2} (ho : OpG K r f) (ha : GoodE K T W ta a) (hb : GoodE K T W tb b) : GoodE K T W (tOp r ta tb) (eOp f a b) := by
  intro g B ρ st σ H rel
  unfold eOp tOp
  refine Res.bind (U := ta σ H) (U2 := fun x H1 Q => tb σ H1 fun y H2 => r x y H2 Q) (O := oD K) (ha.share rel) fun v s1 B1 ρ1 x H1 _ m1 r1 o1 => ?_
  refine Res.bind (U := tb σ H1) (U2 := fun y H2 Q => r x y H2 Q) (O := oD K) (hb.share r1) fun w s2 B2 ρ2 y H2 _ m2 r2 o2 => ?_
  cases e : f v.d w.d with
  | none => trivial
  | some z => exact fun Q hQ => ho g B2 ρ2 s2 σ H2 x y _ _ z r2 (o1.up m2) o2 e Q fun B' x' H' s r' o => hQ B' ρ2 x' H' ⟨s, Pre.refl _⟩ r' o
theorem good_un {r : V → Hp → VK → Prop} {f : Op1} (ho : UnG K r f) (ha : GoodE K T W ta a) : GoodE K T W (tUn r ta) (eOp1 f a) := by
  intro g B ρ st σ H rel
  unfold eOp1 tUn
  refine Res.bind (U := ta σ H) (U2 := fun x H1 Q => r x H1 Q) (O := oD K) (ha.share rel) fun v s1 B1 ρ1 x H1 _ m1 r1 o1 => ?_
  cases e : f v.d with
  | none => trivial
  | some z => exact fun Q hQ => ho g B1 ρ1 s1 σ H1 x _ z r1 o1 e Q fun B' x' H' s r' o => hQ B' ρ1 x' H' ⟨s, Pre.refl _⟩ r' o
/-- an operator that gives a plain thing and changes nothing -/
theorem opG_sh {r : R2} {f : Op2} (h : ∀ B ρ H x y d e v, Sub B H → Rep K B ρ x d → Rep K B ρ y e → f d e = some v → ∃ x' d', v = .sh d' ∧ Rep K B ρ x' d' ∧ ∀ Q : VK, Q x' H → r x y H Q) : OpG K r f :=
  fun g B ρ st σ H x y d e v rel rx ry hf Q q => by
    obtain ⟨x', d', rfl, h2, h3⟩ := h B ρ H x y d e v rel.sub rx ry hf
    exact h3 Q (q B x' H (Sub.refl _) rel h2)
theorem unG_sh {r : V → Hp → VK → Prop} {f : Op1} (h : ∀ B ρ H x d v, Sub B H → Rep K B ρ x d → f d = some v → ∃ x' d', v = .sh d' ∧ Rep K B ρ x' d' ∧ ∀ Q : VK, Q x' H → r x H Q) : UnG K r f :=
  fun g B ρ st σ H x d v rel rx hf Q q => by
    obtain ⟨x', d', rfl, h2, h3⟩ := h B ρ H x d v rel.sub rx hf
    exact h3 Q (q B x' H (Sub.refl _) rel h2)
theorem callG_sh {r : List V → Hp → VK → Prop} {f : OpA} (h : ∀ B ρ H xs ds v, Sub B H → Reps K B ρ xs ds → f ds = some v → ∃ x' d', v = .sh d' ∧ Rep K B ρ x' d' ∧ ∀ Q : VK, Q x' H → r xs H Q) : CallG K r f :=
  fun g B ρ st σ H xs ds v rel rx hf Q q => by
    obtain ⟨x', d', rfl, h2, h3⟩ := h B ρ H xs ds v rel.sub rx hf
    exact h3 Q (q B x' H (Sub.refl _) rel h2)
theorem many_le {n : Nat} (h : n ≤ many) : n ≤ sizeLine := Nat.le_trans h (by decide)
theorem many_lt {n : Nat} (h : n < many) : n < sizeLine := Nat.lt_of_lt_of_le h (by decide)
theorem many_lt' {n : Nat} (h : n ≤ many) : n < sizeLine := Nat.lt_of_le_of_lt h (by decide)
/-- a new list -/
theorem out_new {g : Gx} {st : St} {σ : L2.St} {H : Hp} {p : Addr} {vs : List V} {ds : List D} (rel : Rel K g B ρ st σ H) (hp : H p = none) (h : Reps K B ρ vs ds) :
    Rel K g B ρ st σ (upd H p (.lst vs)) ∧ OutR K g B ρ st σ (upd H p (.lst vs)) (.ref p) (.ow ds) := ⟨rel.put (rel.lone hp), p, vs, rfl, upd_same, h, rel.lone hp⟩

def opOr (r r' : R2) : R2 := fun x y H Q => r x y H Q ∨ r' x y H Q
theorem op_or2 {X : Cx} {f : Value → Value → Sem Value} {r r' : R2} (h : OpR X f r) (h' : OpR X f r') : OpR X f (opOr r r') := fun pins s σ H x y v u Q I rx ry q => by
  rcases q with q | q
  · exact h pins s σ H x y v u Q I rx ry q
  · exact h' pins s σ H x y v u Q I rx ry q
def rAddS : R2 := fun x y H Q => ∃ i j, x = .str i ∧ y = .str j ∧ i.length + j.length ≤ sizeLine ∧ Q (.str (i ++ j)) H
def rAddA : R2 := opOr (rI0 fun i j => .int (i + j)) (opOr rAddS rCat)
theorem op_addA {X : Cx} : OpR X (binaryOp .Add) rAddA := op_or2 op_add (op_or2 op_add_str op_cat)
theorem opG_add : OpG K rAddA oAdd := by
  intro g B ρ st σ H x y d e v rel rx ry hf Q q
  unfold oAdd at hf
  split at hf
  · cases hf
    cases rx
    cases ry
    exact .inl ⟨_, _, rfl, rfl, q B _ H (Sub.refl _) rel (.int _)⟩
  · split at hf
    · rename_i hz
      cases hf
      cases rx
      cases ry
      exact .inr (.inl ⟨_, _, rfl, rfl, many_le hz, q B _ H (Sub.refl _) rel (.str _)⟩)
    · cases hf
  · split at hf
    · rename_i hz
      cases hf
      cases rx with
      | lst h1 r1 =>
        cases ry with
        | lst h2 r2 =>
          refine .inr (.inr ⟨_, _, _, _, rfl, rfl, rel.sub _ _ h1, rel.sub _ _ h2, many_le (by rw [r1.length, r2.length]; exact hz), fun p hp => ?_⟩)
          obtain ⟨r', o'⟩ := out_new rel hp (r1.append r2)
          exact q B _ _ (Sub.refl _) r' o'
    · cases hf
  · cases hf
theorem opG_sub : OpG K (rI0 fun i j => .int (i - j)) oSub := opG_sh fun B ρ H x y d e v _ rx ry hf => by
  unfold oSub at hf
  split at hf
  · cases hf
    cases rx
    cases ry
    exact ⟨_, _, rfl, .int _, fun Q q => ⟨_, _, rfl, rfl, q⟩⟩
  · cases hf
def CMulA (i j : Int) : Prop := wordOk i j = true
theorem CMulA.ok {i j : Int} (h : CMulA i j) : IntMulOk i j := by
  simp only [CMulA, wordOk, Bool.or_eq_true, decide_eq_true_eq] at h
  rcases h with h | h | h
  · exact CMul.ok (.inl ⟨by omega, by omega⟩)
  · exact CMul.ok (.inr ⟨by omega, by omega⟩)
  · exact CMulW.ok h
def rMulA : R2 := opOr (rI CMulA fun i j => .int (i * j)) rRep
theorem op_mulA {X : Cx} : OpR X (binaryOp .Mult) rMulA := op_or2 (opI fun _ _ _ _ _ _ _ hc q => mul_int q hc.ok) op_rep
theorem opG_mul : OpG K rMulA oMul := by
  intro g B ρ st σ H x y d e v rel rx ry hf Q q
  unfold oMul at hf
  split at hf
  · split at hf
    · rename_i hz
      cases hf
      cases rx
      cases ry
      exact .inl ⟨_, _, rfl, rfl, hz, q B _ H (Sub.refl _) rel (.int _)⟩
    · cases hf
  · split at hf
    · rename_i hz
      cases hf
      cases rx with
      | lst h1 r1 =>
        cases ry
        refine .inr ⟨_, _, _, rfl, rfl, rel.sub _ _ h1, by omega, by omega, many_le (by rw [r1.length]; exact hz.1), fun p hp => ?_⟩
        obtain ⟨r', o'⟩ := out_new rel hp (r1.rep _)
        exact q B _ _ (Sub.refl _) r' o'
    · cases hf
  · cases hf
theorem opG_div : OpG K (rI CDivW fun i j => .int (i / j)) oDiv := opG_sh fun B ρ H x y d e v _ rx ry hf => by
  unfold oDiv at hf
  split at hf
  · split at hf
    · rename_i hz
      cases hf
      cases rx
      cases ry
      exact ⟨_, _, rfl, .int _, fun Q q => ⟨_, _, rfl, rfl, hz, q⟩⟩
    · cases hf
  · cases hf
theorem opG_mod : OpG K (rI (fun _ j => j ≠ 0) fun i j => .int (i.fmod j)) oMod := opG_sh fun B ρ H x y d e v _ rx ry hf => by
  unfold oMod at hf
  split at hf
  · split at hf
    · cases hf
    · rename_i hz
      cases hf
      cases rx
      cases ry
      exact ⟨_, _, rfl, .int _, fun Q q => ⟨_, _, rfl, rfl, hz, q⟩⟩
  · cases hf
def CPowW (i j : Int) : Prop := 0 ≤ j ∧ (Builtin.Int.intBits i : Int) * j ≤ 2 ^ 27
theorem op_powW {X : Cx} : OpR X (binaryOp .Pow) (rI CPowW fun i j => .int (i ^ j.toNat)) := opI fun _ _ _ _ _ _ _ hc q => pow_int hc.1 hc.2 q
theorem powW_of {i j : Int} (h0 : 0 ≤ j) (h1 : j ≤ 1000) (h2 : i.natAbs.log2 < 1000) : CPowW i j := by
  refine ⟨h0, ?_⟩
  have hb : Builtin.Int.intBits i ≤ 1000 := by
    unfold Builtin.Int.intBits
    split <;> omega
  have h3 : (Builtin.Int.intBits i : Int) * j ≤ 1000 * 1000 := Int.mul_le_mul (by omega) h1 h0 (by omega)
  omega
theorem opG_pow : OpG K (rI CPowW fun i j => .int (i ^ j.toNat)) oPow := opG_sh fun B ρ H x y d e v _ rx ry hf => by
  unfold oPow at hf
  split at hf
  · split at hf
    · rename_i hz
      cases hf
      cases rx
      cases ry
      exact ⟨_, _, rfl, .int _, fun Q q => ⟨_, _, rfl, rfl, powW_of hz.1 hz.2.1 hz.2.2, q⟩⟩
    · cases hf
  · cases hf
theorem unG_neg : UnG K (rU fun i => .int (-i)) oNeg := unG_sh fun B ρ H x d v _ rx hf => by
  unfold oNeg at hf
  split at hf
  · cases hf
    cases rx
    exact ⟨_, _, rfl, .int _, fun Q q => ⟨_, rfl, q⟩⟩
  · cases hf
theorem opG_cmp {p : Int → Int → Bool} : OpG K (rI0 fun i j => .bl (p i j)) (oCmp p) := opG_sh fun B ρ H x y d e v _ rx ry hf => by
  unfold oCmp at hf
  split at hf
  · cases hf
    cases rx
    cases ry
    exact ⟨_, _, rfl, .bl _, fun Q q => ⟨_, _, rfl, rfl, q⟩⟩
  · cases hf

/-! ### equality of data -/
mutual
def D.py : D → PyData
  | .non => .none
  | .bl b => .bool b
  | .int i => .int i
  | .str x => .str x
  | .lst xs => .list (D.pys xs)
  | .tup xs => .tuple (D.pys xs)
  | .scr _ => .none
  | .cell _ => .none
def D.pys : List D → List PyData
  | [] => []
  | x :: xs => D.py x :: D.pys xs
end
theorem str_fine {x : Str} (h : strFine x = true) : PyData.strOk x = true := by
  unfold strFine at h
  rw [Bool.and_eq_true] at h
  obtain ⟨_, h⟩ := h
  unfold PyData.strOk
  rw [Array.all_eq_true] at h ⊢
  intro i hi
  have := of_decide_eq_true (h i hi)
  exact decide_eq_true (by omega)
mutual
theorem fine_eq : ∀ (n m : Nat) (d e : D), d.fine n = true → e.fine m = true → PyData.eqv d.py e.py = d.eq e
  | n, m, d, e, hd, he => by
    cases d with
    | scr _ => unfold D.fine at hd; split at hd <;> simp_all
    | cell _ => unfold D.fine at hd; split at hd <;> simp_all
    | lst xs =>
      cases e with
      | scr _ => unfold D.fine at he; split at he <;> simp_all
      | cell _ => unfold D.fine at he; split at he <;> simp_all
      | lst ys =>
        cases n with
        | zero => simp [D.fine] at hd
        | succ n =>
          cases m with
          | zero => simp [D.fine] at he
          | succ m =>
            simp only [D.fine] at hd he
            simp only [D.py, D.eq, PyData.eqv]
            exact fines_eq n m xs ys hd he
      | _ => simp [D.py, D.eq, PyData.eqv]
    | tup xs =>
      cases e with
      | scr _ => unfold D.fine at he; split at he <;> simp_all
      | cell _ => unfold D.fine at he; split at he <;> simp_all
      | tup ys =>
        cases n with
        | zero => simp [D.fine] at hd
        | succ n =>
          cases m with
          | zero => simp [D.fine] at he
          | succ m =>
            simp only [D.fine] at hd he
            simp only [D.py, D.eq, PyData.eqv]
            exact fines_eq n m xs ys hd he
      | _ => simp [D.py, D.eq, PyData.eqv]
    | _ =>
      cases e with
      | scr _ => unfold D.fine at he; split at he <;> simp_all
      | cell _ => unfold D.fine at he; split at he <;> simp_all
      | _ => simp [D.py, D.eq, PyData.eqv]
theorem fines_eq : ∀ (n m : Nat) (ds es : List D), D.fines n ds = true → D.fines m es = true → PyData.eqvAll (D.pys ds) (D.pys es) = D.eqs ds es
  | n, m, [], [], _, _ => by simp [D.pys, D.eqs, PyData.eqvAll]
  | n, m, [], _ :: _, _, _ => by simp [D.pys, D.eqs, PyData.eqvAll]
  | n, m, _ :: _, [], _, _ => by simp [D.pys, D.eqs, PyData.eqvAll]
  | n, m, d :: ds, e :: es, hd, he => by
    simp only [D.fines, Bool.and_eq_true] at hd he
    simp only [D.pys, D.eqs, PyData.eqvAll]
    rw [fine_eq n m d e hd.1 he.1, fines_eq n m ds es hd.2 he.2]
end
mutual
theorem fine_lay : ∀ (n : Nat) (d : D), d.fine n = true → d.py.canLay0 = true ∧ d.py.depth ≤ n + 1
  | n, d, hd => by
    cases d with
    | scr _ => unfold D.fine at hd; split at hd <;> simp_all
    | cell _ => unfold D.fine at hd; split at hd <;> simp_all
    | str x =>
      have hx : strFine x = true := by
        cases n <;> simpa [D.fine] using hd
      refine ⟨?_, by simp [D.py, PyData.depth]⟩
      simp only [D.py, PyData.canLay0]
      exact str_fine hx
    | lst xs =>
      cases n with
      | zero => simp [D.fine] at hd
      | succ n =>
        simp only [D.fine] at hd
        obtain ⟨h1, h2⟩ := fines_lay n xs hd
        exact ⟨by simpa [D.py, PyData.canLay0] using h1, by simp only [D.py, PyData.depth]; omega⟩
    | tup xs =>
      cases n with
      | zero => simp [D.fine] at hd
      | succ n =>
        simp only [D.fine] at hd
        obtain ⟨h1, h2⟩ := fines_lay n xs hd
        exact ⟨by simpa [D.py, PyData.canLay0] using h1, by simp only [D.py, PyData.depth]; omega⟩
    | _ => simp [D.py, PyData.canLay0, PyData.depth]
theorem fines_lay : ∀ (n : Nat) (ds : List D), D.fines n ds = true → PyData.canLayAll0 (D.pys ds) = true ∧ PyData.depthAll (D.pys ds) ≤ n + 1
  | n, [], _ => by simp [D.pys, PyData.canLayAll0, PyData.depthAll]
  | n, d :: ds, hd => by
    simp only [D.fines, Bool.and_eq_true] at hd
    obtain ⟨h1, h2⟩ := fine_lay n d hd.1
    obtain ⟨h3, h4⟩ := fines_lay n ds hd.2
    refine ⟨by simp [D.pys, PyData.canLayAll0, h1, h3], ?_⟩
    simp only [D.pys, PyData.depthAll]
    omega
end
theorem shaped_of {d : D} (h : d.fine deep = true) : SeqAt.shaped d.py = true := by
  obtain ⟨h1, h2⟩ := fine_lay deep d h
  unfold SeqAt.shaped
  rw [h1, Bool.true_and]
  unfold deep at h2
  exact decide_eq_true (by omega)
section
variable {K : PySem.W.Frag} {B : Hp} {ρ : List Addr} {H : Hp}
mutual
theorem Rep.dp (s : Sub B H) : ∀ (n : Nat) (v : V) (d : D), Rep K B ρ v d → d.fine n = true → Dp K H v d.py
  | n, _, _, .non, _ => .non
  | n, _, _, .bl b, _ => .bl b
  | n, _, _, .int i, _ => .int i
  | n, _, _, .str x, _ => .str x
  | n, _, _, .lst h r, hf => by
    cases n with
    | zero => simp [D.fine] at hf
    | succ n =>
      simp only [D.fine] at hf
      simp only [D.py]
      exact .lst (SqL.of (s _ _ h)) (Reps.dp s n _ _ r hf)
  | n, _, _, .tup h r, hf => by
    cases n with
    | zero => simp [D.fine] at hf
    | succ n =>
      simp only [D.fine] at hf
      simp only [D.py]
      exact .tup (SqT.of (s _ _ h)) (Reps.dp s n _ _ r hf)
  | n, _, _, .scr h, hf => by unfold D.fine at hf; split at hf <;> simp_all
  | n, _, _, .cell h, hf => by unfold D.fine at hf; split at hf <;> simp_all
theorem Reps.dp (s : Sub B H) : ∀ (n : Nat) (vs : List V) (ds : List D), Reps K B ρ vs ds → D.fines n ds = true → DpAll K H vs (D.pys ds)
  | n, _, _, .nil, _ => .nil
  | n, _, _, .cons r t, hf => by
    simp only [D.fines, Bool.and_eq_true] at hf
    simp only [D.pys]
    exact .cons (Rep.dp s n _ _ r hf.1) (Reps.dp s n _ _ t hf.2)
end
theorem opG_eq : OpG K (rEqD K) oEq := opG_sh fun B ρ H x y d e v s rx ry hf => by
  unfold oEq at hf
  split at hf
  · rename_i hz
    rw [Bool.and_eq_true] at hz
    cases hf
    refine ⟨_, _, rfl, .bl _, fun Q q => ⟨d.py, e.py, rx.dp s deep _ _ hz.1, ry.dp s deep _ _ hz.2, shaped_of hz.1, shaped_of hz.2, ?_⟩⟩
    rw [fine_eq deep deep d e hz.1 hz.2]
    exact q
  · cases hf
theorem opG_ne : OpG K (rNeD K) oNe := opG_sh fun B ρ H x y d e v s rx ry hf => by
  unfold oNe at hf
  split at hf
  · rename_i hz
    rw [Bool.and_eq_true] at hz
    cases hf
    refine ⟨_, _, rfl, .bl _, fun Q q => ⟨d.py, e.py, rx.dp s deep _ _ hz.1, ry.dp s deep _ _ hz.2, shaped_of hz.1, shaped_of hz.2, ?_⟩⟩
    rw [fine_eq deep deep d e hz.1 hz.2]
    exact q
  · cases hf
end
end
end Mini

set_option Elab.async false
set_option linter.all false
set_option maxRecDepth 100000
set_option maxHeartbeats 1000000
/-! PySE3: displays, subscripts, dicts, tests, built-ins, calls. -/
namespace Mini
open PySem PySem.Spec PyProof.Rows L2
section
variable {K : PySem.W.Frag} {T : XT} {W : WX} {ta tb tc : TE} {a b c : EvE} {va : TA} {l : EvA}

theorem good_nil : GoodA K T W tNil aNil := fun g B ρ st σ H r => Res.now (x := []) (fun Q q => q) (Mono.refl _ _) r .nil
theorem good_cons (ha : GoodE K T W ta a) (hl : GoodA K T W va l) : GoodA K T W (tCons ta va) (aCons a l) := by
  intro g B ρ st σ H rel
  unfold aCons tCons
  refine Res.bind (U := ta σ H) (U2 := fun x H1 Q => va σ H1 fun xs H2 => Q (x :: xs) H2) (O := oD K) (ha.share rel) fun v s1 B1 ρ1 x H1 _ m1 r1 o1 => ?_
  refine Res.bind (U := va σ H1) (U2 := fun xs H2 Q => Q (x :: xs) H2) (O := oDs K) (hl g B1 ρ1 s1 σ H1 r1) fun ds s2 B2 ρ2 xs H2 _ m2 r2 o2 => ?_
  exact Res.now (x := x :: xs) (fun Q q => q) (Mono.refl _ _) r2 (.cons (o1.up m2) o2)
theorem good_tup (hl : GoodA K T W va l) : GoodE K T W (tTup va) (eTup l) := by
  intro g B ρ st σ H rel
  unfold eTup tTup
  refine Res.bind (U := va σ H) (U2 := fun xs H1 Q => xs.length ≤ sizeLine ∧ ∀ p, H1 p = none → Q (V.ref p) (upd H1 p (.tup xs))) (O := oDs K) (hl g B ρ st σ H rel) fun ds s1 B1 ρ1 xs H1 _ m1 r1 o1 => ?_
  split
  · rename_i hz
    refine fun Q hQ => ⟨many_le (by rw [o1.length]; exact hz), fun p hp => ?_⟩
    exact hQ (upd B1 p (.tup xs)) ρ1 (.ref p) _ ⟨Sub.new r1 hp, Pre.refl _⟩ (r1.imm hp) (.tup upd_same (o1.mono (Sub.new r1 hp) (Pre.refl _)))
  · trivial
theorem good_lst (hl : GoodA K T W va l) : GoodE K T W (tLst va) (eLst l) := by
  intro g B ρ st σ H rel
  unfold eLst tLst
  refine Res.bind (U := va σ H) (U2 := fun xs H1 Q => xs.length ≤ sizeLine ∧ ∀ p, H1 p = none → Q (V.ref p) (upd H1 p (.lst xs))) (O := oDs K) (hl g B ρ st σ H rel) fun ds s1 B1 ρ1 xs H1 _ m1 r1 o1 => ?_
  split
  · rename_i hz
    refine fun Q hQ => ⟨many_le (by rw [o1.length]; exact hz), fun p hp => ?_⟩
    obtain ⟨r', o'⟩ := out_new r1 hp o1
    exact hQ B1 ρ1 (.ref p) _ (Mono.refl _ _) r' o'
  · trivial
theorem get_push {α : Type} (l : List α) (x : α) : (l ++ [x])[l.length]? = some x := by simp
theorem good_lstC (hl : GoodA K T W va l) : GoodE K T W (tLst va) (eLstC l) := by
  intro g B ρ st σ H rel
  unfold eLstC tLst
  refine Res.bind (U := va σ H) (U2 := fun xs H1 Q => xs.length ≤ sizeLine ∧ ∀ p, H1 p = none → Q (V.ref p) (upd H1 p (.lst xs))) (O := oDs K) (hl g B ρ st σ H rel) fun ds s1 B1 ρ1 xs H1 _ m1 r1 o1 => ?_
  split
  · rename_i hz
    refine fun Q hQ => ⟨many_le (by rw [o1.length]; exact hz), fun p hp => ?_⟩
    have lo := r1.lone hp
    have r' := (r1.put (o := .lst xs) lo).newCell (c := .lst ds) ⟨lo.nb, lo.np, lo.nc, lo.ns⟩ upd_same ⟨xs, rfl, o1⟩
    refine hQ B1 (ρ1 ++ [p]) (.ref p) _ ⟨Sub.refl _, Pre.push _ _⟩ r' (.cell ?_)
    rw [← r1.cl]
    exact get_push _ _
  · trivial

/-! ### subscripts -/
theorem ixN_eq (n : Nat) (i : Int) : ixN n i = ixNat n i := rfl
theorem Reps.atI {B : Hp} {ρ : List Addr} {vs : List V} {ds : List D} {i : Int} {d : D} (r : Reps K B ρ vs ds) (h : atIx ds i = some d) : ∃ v, L2.atI vs i = some v ∧ Rep K B ρ v d := by
  unfold atIx at h
  cases e : ixNat ds.length i with
  | none => rw [e] at h; cases h
  | some j =>
    rw [e] at h
    have h' : ds[j]? = some d := h
    obtain ⟨v, h1, h2⟩ := r.get h'
    refine ⟨v, ?_, h2⟩
    unfold L2.atI
    rw [ixN_eq, r.length, e]
    exact h1
theorem opG_ix : OpG K (rIx K) oIx := opG_sh fun B ρ H x y d e v s rx ry hf => by
  unfold oIx at hf
  split at hf
  · rename_i xs i
    cases e2 : atIx xs i with
    | none => rw [e2] at hf; cases hf
    | some z =>
      rw [e2] at hf
      cases hf
      cases rx with
      | lst h1 r1 =>
        cases ry
        obtain ⟨w, h3, h4⟩ := r1.atI e2
        exact ⟨w, z, rfl, h4, fun Q q => .inl ⟨_, _, _, _, rfl, rfl, SqL.of (s _ _ h1), h3, q⟩⟩
  · rename_i xs i
    cases e2 : atIx xs i with
    | none => rw [e2] at hf; cases hf
    | some z =>
      rw [e2] at hf
      cases hf
      cases rx with
      | tup h1 r1 =>
        cases ry
        obtain ⟨w, h3, h4⟩ := r1.atI e2
        exact ⟨w, z, rfl, h4, fun Q q => .inr (.inl ⟨_, _, _, _, rfl, rfl, SqT.of (s _ _ h1), h3, q⟩)⟩
  · rename_i xs i
    cases e2 : atIx xs i with
    | none => rw [e2] at hf; cases hf
    | some z =>
      rw [e2] at hf
      cases hf
      cases rx with
      | scr h1 =>
        cases ry
        refine ⟨.int z, _, rfl, .int z, fun Q q => .inl ⟨_, _, _, _, rfl, rfl, sub_sqL s h1, ?_, q⟩⟩
        unfold L2.atI
        unfold atIx at e2
        rw [ixN_eq, List.length_map]
        cases e3 : ixNat xs.length i with
        | none => rw [e3] at e2; cases e2
        | some j =>
          rw [e3] at e2
          have e4 : xs[j]? = some z := e2
          show (xs.map V.int)[j]? = some (.int z)
          rw [List.getElem?_map, e4]
          rfl
  · cases hf
def rLenA (K : PySem.W.Frag) : List V → Hp → VK → Prop := fun xs H Q => ∃ x n, xs = [x] ∧ LenV K x H n ∧ Q (.int n) H
theorem callG_len : CallG K (rLenA K) bLen := callG_sh fun B ρ H xs ds v s r hf => by
  unfold bLen at hf
  split at hf
  · cases r with
    | cons r rr =>
      cases rr
      unfold oLen at hf
      split at hf
      · cases hf
        cases r with
        | lst h1 r1 => exact ⟨_, _, rfl, .int _, fun Q q => ⟨_, _, rfl, .inl ⟨_, SqL.of (s _ _ h1), r1.length.symm⟩, q⟩⟩
      · cases hf
        cases r with
        | tup h1 r1 => exact ⟨_, _, rfl, .int _, fun Q q => ⟨_, _, rfl, .inr ⟨_, SqT.of (s _ _ h1), r1.length.symm⟩, q⟩⟩
      · cases hf
        cases r with
        | scr h1 => exact ⟨_, _, rfl, .int _, fun Q q => ⟨_, _, rfl, .inl ⟨_, sub_sqL s h1, by rw [List.length_map]⟩, q⟩⟩
      · split at hf
        · rename_i hz
          cases hf
          cases r
          exact ⟨_, _, rfl, .int _, fun Q q => ⟨_, _, rfl, ⟨many_le hz, rfl⟩, q⟩⟩
        · cases hf
      · cases hf
  · cases hf
theorem Rel.look {g : Gx} {B : Hp} {ρ : List Addr} {st : St} {σ : L2.St} {H : Hp} (r : Rel K g B ρ st σ H) {i : Nat} {ds : List D} (h : st.look i = some ds) : ∃ p vs, σ[i]? = some (some (.ref p)) ∧ H p = some (.lst vs) ∧ Reps K B ρ vs ds := by
  unfold St.look at h
  split at h
  · rename_i xs e
    cases h
    obtain ⟨x, h1, h2⟩ := r.slot i _ e
    cases h2 with
    | lst h3 h4 => exact ⟨_, _, h1, r.sub _ _ h3, h4⟩
  · rename_i xs e
    cases h
    exact r.ownH e
  · cases h
theorem good_lenV {i : Nat} : GoodE K T W (tCB (rLenA K) (tCons (tVar i) tNil)) (eLenV i) := by
  intro g B ρ st σ H r
  unfold eLenV
  split
  · rename_i ds e
    obtain ⟨p, vs, h1, h2, h3⟩ := r.look e
    exact Res.now (x := .int ds.length) (fun Q q => ⟨_, h1, _, _, rfl, .inl ⟨_, SqL.of h2, h3.length.symm⟩, q⟩) (Mono.refl _ _) r (.int _)
  · trivial

/-! ### dicts that are cells -/
theorem D.ky_rep {B : Hp} {ρ : List Addr} {v : V} {d : D} {k : Ky} (r : Rep K B ρ v d) (h : d.ky? = some k) : v = kV k := by
  cases r <;> simp [D.ky?] at h <;> subst h <;> rfl
theorem kv_get {B : Hp} {ρ : List Addr} : ∀ {kws : List (Key × V)} {kvs : List (Ky × D)} {k : Ky} {d : D}, Paired (fun (p : Key × V) (q : Ky × D) => p.1 = q.1 ∧ Rep K B ρ p.2 q.2) kws kvs → kvGet kvs k = some d → ∃ v, valV kws k = some v ∧ Rep K B ρ v d := by
  intro kws kvs k d h
  induction h with
  | nil => intro e; cases e
  | @cons p q ps qs pq t ih =>
    intro e
    unfold kvGet at e
    rw [List.find?_cons] at e
    by_cases hq : q.1 = k
    · rw [decide_eq_true hq] at e
      have e' : q.2 = d := Option.some.inj e
      exact ⟨p.2, valV_pos (pq.1.trans hq), e' ▸ pq.2⟩
    · rw [decide_eq_false hq] at e
      rw [valV_neg (fun z => hq (pq.1.symm.trans z))]
      exact ih e
theorem kv_any {B : Hp} {ρ : List Addr} {kws : List (Key × V)} {kvs : List (Ky × D)} {k : Ky} (h : Paired (fun (p : Key × V) (q : Ky × D) => p.1 = q.1 ∧ Rep K B ρ p.2 q.2) kws kvs) : (kws.any fun kv => decide (kv.1 = k)) = (kvs.any fun kv => decide (kv.1 = k)) := by
  induction h with
  | nil => rfl
  | @cons p q ps qs pq t ih => rw [List.any_cons, List.any_cons, ih, pq.1]
theorem kv_map {B : Hp} {ρ : List Addr} {kws : List (Key × V)} {kvs : List (Ky × D)} {k : Ky} {v : V} {d : D} (r : Rep K B ρ v d) (h : Paired (fun (p : Key × V) (q : Ky × D) => p.1 = q.1 ∧ Rep K B ρ p.2 q.2) kws kvs) :
    Paired (fun (p : Key × V) (q : Ky × D) => p.1 = q.1 ∧ Rep K B ρ p.2 q.2) (kws.map (fun kv => if kv.1 = k then (kv.1, v) else kv)) (kvs.map (fun kv => if kv.1 = k then (kv.1, d) else kv)) := by
  induction h with
  | nil => exact .nil
  | @cons p q ps qs pq t ih =>
    rw [List.map_cons, List.map_cons]
    refine .cons ?_ ih
    by_cases hq : q.1 = k
    · rw [if_pos (pq.1.trans hq), if_pos hq]
      exact ⟨pq.1, r⟩
    · rw [if_neg (fun z => hq (pq.1.symm.trans z)), if_neg hq]
      exact pq
theorem kv_put {B : Hp} {ρ : List Addr} {kws : List (Key × V)} {kvs : List (Ky × D)} {k : Ky} {v : V} {d : D} (r : Rep K B ρ v d) (h : Paired (fun (p : Key × V) (q : Ky × D) => p.1 = q.1 ∧ Rep K B ρ p.2 q.2) kws kvs) :
    Paired (fun (p : Key × V) (q : Ky × D) => p.1 = q.1 ∧ Rep K B ρ p.2 q.2) (putK kws k v) (kvPut kvs k d) := by
  unfold putK kvPut
  rw [kv_any h]
  split
  · exact kv_map r h
  · exact h.snoc ⟨rfl, r⟩
theorem good_dget (ha : GoodE K T W ta a) (hb : GoodE K T W tb b) : GoodE K T W (tDGet ta tb) (eDGet a b) := by
  intro g B ρ st σ H rel
  unfold eDGet tDGet
  refine Res.bind (U := ta σ H) (U2 := fun x H1 Q => tb σ H1 fun y H2 => ∃ a v, x = V.ref a ∧ DGet H2 a y (some v) ∧ Q v H2) (O := oD K) (ha.share rel) fun v s1 B1 ρ1 x H1 _ m1 r1 o1 => ?_
  refine Res.bind (U := tb σ H1) (U2 := fun y H2 Q => ∃ a v, x = V.ref a ∧ DGet H2 a y (some v) ∧ Q v H2) (O := oD K) (hb.share r1) fun w s2 B2 ρ2 y H2 _ m2 r2 o2 => ?_
  have o1 : Rep K B2 ρ2 x v.d := o1.up m2
  split
  · rename_i n k e1 e2
    have o1' := o1
    rw [e1] at o1'
    cases o1' with
    | cell hn =>
      split
      · rename_i kvs hc
        obtain ⟨u, hu, kws, e3, hp⟩ := r2.cell n _ _ hc hn
        subst e3
        split
        · rename_i d hd
          obtain ⟨z, hz1, hz2⟩ := kv_get hp hd
          refine Res.now (x := z) (fun Q q => ⟨_, z, rfl, ?_, q⟩) (Mono.refl _ _) r2 hz2
          rw [D.ky_rep o2 e2, ← hz1]
          exact DGet.k hu
        · trivial
      · trivial
  · trivial
/-- the values of a display of texts' keys -/
def GoodP (K : PySem.W.Frag) (T : XT) (W : WX) (trs : List (TE × TE)) (ks : List Str) (l : EvA) : Prop := ∀ g B ρ st σ H, Rel K g B ρ st σ H →
  Res K T W g B ρ σ (tPairs trs σ H) (fun ds B' ρ' _ _ ps => ∃ vs, ps = (ks.zip vs).map (fun kv => (V.str kv.1, kv.2)) ∧ vs.length = ks.length ∧ Reps K B' ρ' vs ds) (l st)
theorem good_pnil : GoodP K T W [] [] aNil := fun g B ρ st σ H r => Res.now (x := []) (fun Q q => q) (Mono.refl _ _) r ⟨[], rfl, rfl, .nil⟩
theorem good_pcons {trs : List (TE × TE)} {ks : List Str} {k : Str} (ha : GoodE K T W ta a) (hl : GoodP K T W trs ks l) : GoodP K T W ((tC (.str k), ta) :: trs) (k :: ks) (aCons a l) := by
  intro g B ρ st σ H rel
  unfold aCons
  show Res K T W g B ρ σ (fun Q => ta σ H fun y H2 => tPairs trs σ H2 fun ps H3 => Q ((.str k, y) :: ps) H3) _ _
  refine Res.bind (U := ta σ H) (U2 := fun y H2 Q => tPairs trs σ H2 fun ps H3 => Q ((V.str k, y) :: ps) H3) (O := oD K) (ha.share rel) fun v s1 B1 ρ1 x H1 _ m1 r1 o1 => ?_
  refine Res.bind (U := tPairs trs σ H1) (U2 := fun ps H2 Q => Q ((V.str k, x) :: ps) H2) (hl g B1 ρ1 s1 σ H1 r1) fun ds s2 B2 ρ2 ps H2 _ m2 r2 o2 => ?_
  obtain ⟨vs, e1, e2, e3⟩ := o2
  refine Res.now (x := (V.str k, x) :: ps) (fun Q q => q) (Mono.refl _ _) r2 ⟨x :: vs, ?_, ?_, .cons (o1.up m2) e3⟩
  · rw [e1]
    rfl
  · rw [List.length_cons, List.length_cons, e2]
theorem merge_rep {B : Hp} {ρ : List Addr} : ∀ {ks : List Str} {vs : List V} {ds : List D} {kws : List (Key × V)} {kvs : List (Ky × D)}, Reps K B ρ vs ds → Paired (fun (p : Key × V) (q : Ky × D) => p.1 = q.1 ∧ Rep K B ρ p.2 q.2) kws kvs →
    Paired (fun (p : Key × V) (q : Ky × D) => p.1 = q.1 ∧ Rep K B ρ p.2 q.2) (mergeK kws ((ks.zip vs).map fun kv => (Sum.inr kv.1, kv.2))) ((ks.zip ds).foldl (fun acc kv => kvPut acc (.inr kv.1) kv.2) kvs)
  | [], _, _, _, _, _, h => h
  | k :: ks, _, _, _, _, .nil, h => h
  | k :: ks, _, _, _, _, .cons r t, h => by
    show Paired _ (mergeK (putK _ (Sum.inr k) _) ((ks.zip _).map fun kv => (Sum.inr kv.1, kv.2))) ((ks.zip _).foldl (fun acc kv => kvPut acc (.inr kv.1) kv.2) (kvPut _ (.inr k) _))
    exact merge_rep t (kv_put r h)
theorem good_disp {trs : List (TE × TE)} {ks : List Str} (hl : GoodP K T W trs ks l) : GoodE K T W (tDisp trs) (eDisp ks l) := by
  intro g B ρ st σ H rel
  unfold eDisp
  -- the empty dict, watched while the values are made
  have body : ∀ p, H p = none → Res K T W (g.guard p (.dK [])) B ρ σ (tPairs trs σ (upd H p (.dK []))) (fun ds B' ρ' _ _ ps => ∃ vs, ps = (ks.zip vs).map (fun kv => (V.str kv.1, kv.2)) ∧ vs.length = ks.length ∧ Reps K B' ρ' vs ds) (l st) := fun p hp =>
    hl _ B ρ st σ _ ((rel.put (rel.lone hp)).guard ⟨rel.noB hp, rel.noP hp, rel.noC hp, (rel.lone hp).ns⟩ upd_same)
  cases e : l st with
  | no => trivial
  | ex xc s1 =>
    intro Q hQ p hp
    have z := body p hp
    rw [e] at z
    refine z _ fun B' ρ' cls d H' m r o => ?_
    obtain ⟨r', _, _⟩ := r.unguard ((rel.lone hp).no0 rel) (rel.noP hp)
    exact hQ B' ρ' cls d H' m r' o
  | ok ds s1 =>
    show Res K T W g B ρ σ (tDisp trs σ H) (oV K g σ) (if ds.length = ks.length ∧ ks.length ≤ 15 then _ else _)
    split
    · rename_i hz
      intro Q hQ p hp
      have z := body p hp
      rw [e] at z
      refine z _ fun B' ρ' ps H' m r o => ?_
      obtain ⟨r', h1, lo⟩ := r.unguard ((rel.lone hp).no0 rel) (rel.noP hp)
      obtain ⟨vs, e1, e2, e3⟩ := o
      refine ⟨h1, (ks.zip vs).map (fun kv => (Sum.inr kv.1, kv.2)), ?_, ?_, ?_⟩
      · rw [e1, List.map_map]
        rfl
      · rw [List.length_map, List.length_zip, e2, Nat.min_self]
        exact hz.2
      · have r2 := (r'.put (o := .dK (mergeK [] ((ks.zip vs).map fun kv => (Sum.inr kv.1, kv.2)))) lo).newCell (c := .dK ((ks.zip ds).foldl (fun acc kv => kvPut acc (.inr kv.1) kv.2) [])) lo upd_same ⟨_, rfl, merge_rep e3 .nil⟩
        refine hQ B' (ρ' ++ [p]) (.ref p) _ ⟨m.b, m.r.trans (Pre.push _ _)⟩ r2 (.cell ?_)
        rw [← r'.cl]
        exact get_push _ _
    · trivial
theorem seq_nat {i : Int} {n k : Nat} (h0 : 0 ≤ i) (hk : i.toNat = k) (hn : k < n) : seqIndex? i n = some k := by
  unfold seqIndex?
  have e1 : ¬ i < 0 := by omega
  simp only [e1, if_false]
  have e2 : (0 : Int) ≤ i ∧ i < (n : Int) := by omega
  simp [e2, hk]
theorem Reps.len_of {B : Hp} {ρ : List Addr} {vs : List V} {ds : List D} {k : Nat} {d : D} (r : Reps K B ρ vs ds) (h : ds[k]? = some d) : k < vs.length := by
  rw [r.length]
  exact (List.getElem?_eq_some_iff.mp h).1
theorem good_popC (ha : GoodE K T W ta a) (hb : GoodE K T W tb b) : GoodE K T W (tBM K "list" rPopAt ta (tCons tb tNil)) (ePopC a b) := by
  intro g B ρ st σ H rel
  unfold ePopC tBM
  refine Res.bind (U := ta σ H) (U2 := fun x H1 Q => tyV K "list" x H1 ∧ tCons tb tNil σ H1 fun xs H2 => rPopAt x xs H2 Q) (O := oD K) (ha.share rel) fun v s1 B1 ρ1 x H1 _ m1 r1 o1 => ?_
  have o1 : Rep K B1 ρ1 x v.d := o1
  split
  · rename_i n e1
    rw [e1] at o1
    cases o1 with
    | @cell ad _ hn =>
      split
      · rename_i xs0 hc0
        obtain ⟨u, hu, vs0, e3, hp0⟩ := r1.cell n _ _ hc0 hn
        subst e3
        refine Res.conv (U := fun Q => tb σ H1 fun y H2 => rPopAt (.ref ad) [y] H2 Q) ?_ fun Q q => ⟨.inl ⟨rfl, _, SqL.of hu⟩, q⟩
        refine Res.bind (U := tb σ H1) (U2 := fun y H2 Q => rPopAt (V.ref ad) [y] H2 Q) (O := oD K) (hb.share r1) fun w s2 B2 ρ2 y H2 _ m2 r2 o2 => ?_
        have o2 : Rep K B2 ρ2 y w.d := o2
        split
        · rename_i i xs e4 hc
          rw [e4] at o2
          cases o2
          have hn2 := m2.r _ _ hn
          obtain ⟨u2, hu2, vs, e5, hp⟩ := r2.cell n _ _ hc hn2
          subst e5
          split
          · rename_i hi
            split
            · rename_i d hd
              obtain ⟨z, hz1, hz2⟩ := hp.get hd
              have r3 := r2.setCell (c := .lst (xs.eraseIdx i.toNat)) (o := .lst (vs.eraseIdx i.toNat)) hn2 ⟨_, rfl, hp.eraseIdx _⟩
              exact Res.now (x := z) (fun Q q => ⟨_, _, _, _, _, rfl, rfl, hu2, by omega, by omega, seq_nat hi.1 rfl (hp.len_of hd), hz1, q⟩) (Mono.refl _ _) r3 hz2
            · trivial
          · trivial
        · trivial
      · trivial
  · trivial
theorem good_popV {j : Nat} (hb : GoodE K T W tb b) : GoodE K T W (tBM K "list" rPopAt (tVar j) (tCons tb tNil)) (ePopV j b) := by
  intro g B ρ st σ H rel
  unfold ePopV tBM
  split
  · rename_i xs0 e0
    obtain ⟨p, vs0, h1, h2, h3⟩ := rel.ownH e0
    refine Res.conv (U := fun Q => tb σ H fun y H2 => rPopAt (.ref p) [y] H2 Q) ?_ fun Q q => ⟨_, h1, .inl ⟨rfl, _, SqL.of h2⟩, q⟩
    refine Res.bind (U := tb σ H) (U2 := fun y H2 Q => rPopAt (V.ref p) [y] H2 Q) (O := oD K) (hb.share rel) fun w s2 B2 ρ2 y H2 _ m2 r2 o2 => ?_
    have o2 : Rep K B2 ρ2 y w.d := o2
    split
    · rename_i i xs e4 e5
      rw [e4] at o2
      cases o2
      obtain ⟨p', vs, h4, h5, h6⟩ := r2.ownH e5
      rw [h1] at h4
      cases h4
      split
      · rename_i hi
        split
        · rename_i d hd
          obtain ⟨z, hz1, hz2⟩ := h6.get hd
          have lo := r2.takeOut e5 h1
          have hj : j < s2.env.length := (List.getElem?_eq_some_iff.mp e5).1
          have r3 := ((r2.forget (i := j)).put (o := .lst (vs.eraseIdx i.toNat)) lo).backIn hj h1 lo upd_same (h6.eraseIdx _)
          exact Res.now (x := z) (fun Q q => ⟨_, _, _, _, _, rfl, rfl, h5, by omega, by omega, seq_nat hi.1 rfl (h6.len_of hd), hz1, q⟩) (Mono.refl _ _) r3 hz2
        · trivial
      · trivial
    · trivial
  · trivial
end
end Mini

set_option Elab.async false
set_option linter.all false
set_option maxRecDepth 100000
set_option maxHeartbeats 1000000
/-! PySE4: tests, built-ins, calls of defs, what is walked, targets, comprehensions. -/
namespace Mini
open PySem PySem.Spec PyProof.Rows L2
section
variable {K : PySem.W.Frag} {T : XT} {W : WX} {ta tb tc : TE} {a b c : EvE} {va : TA} {l : EvA} {tt tu : TT} {et eu : EvT}

theorem unG_isN : UnG K (fun x H Q => Q (.bl (decide (x = .non))) H) oIsN := unG_sh fun B ρ H x d v _ r hf => by
  unfold oIsN at hf
  cases hf
  refine ⟨_, _, rfl, .bl _, fun Q q => ?_⟩
  cases r <;> exact q
theorem unG_notN : UnG K (fun x H Q => Q (.bl (!decide (x = .non))) H) oNotN := unG_sh fun B ρ H x d v _ r hf => by
  unfold oNotN at hf
  cases hf
  refine ⟨_, _, rfl, .bl _, fun Q q => ?_⟩
  cases r <;> exact q
theorem good_isN (ha : GoodE K T W ta a) : GoodE K T W (tIsN ta) (eOp1 oIsN a) := good_un (r := fun x H Q => Q (.bl (decide (x = .non))) H) unG_isN ha
theorem good_notN (ha : GoodE K T W ta a) : GoodE K T W (tNotN ta) (eOp1 oNotN a) := good_un (r := fun x H Q => Q (.bl (!decide (x = .non))) H) unG_notN ha

/-! ### tests -/
theorem good_bltest (ha : GoodE K T W ta a) : GoodT K T W (tTest ta) (tBl a) := by
  intro g B ρ st σ H rel
  unfold tBl tTest
  refine Res.bind (U := ta σ H) (U2 := fun x H1 Q => ∃ k, x = .bl k ∧ Q k H1) (O := oD K) (ha.share rel) fun v s1 B1 ρ1 x H1 _ m1 r1 o1 => ?_
  have o1 : Rep K B1 ρ1 x v.d := o1
  split
  · rename_i k e
    rw [e] at o1
    cases o1
    exact Res.now (x := k) (fun Q q => ⟨k, rfl, q⟩) (Mono.refl _ _) r1 rfl
  · trivial
theorem tru_rep {g : Gx} {B : Hp} {ρ : List Addr} {st : St} {σ : L2.St} {H : Hp} {x : V} {d : D} {k : Bool} (r : Rel K g B ρ st σ H) (o : Rep K B ρ x d) (h : d.tru st.om = some k) : TruV K x H k := by
  cases o with
  | non => cases h; rfl
  | bl b => cases h; rfl
  | int i => cases h; rfl
  | str y =>
    have h : (if y.cps.size ≤ many then some ((y.cps.size : Int) != 0) else none) = some k := h
    split at h
    · rename_i hz
      cases h
      exact ⟨many_le hz, rfl⟩
    · cases h
  | lst h1 r1 =>
    cases h
    refine .inl ⟨_, SqL.of (r.sub _ _ h1), ?_⟩
    cases r1 <;> rfl
  | tup h1 r1 =>
    cases h
    refine .inr (.inl ⟨_, SqT.of (r.sub _ _ h1), ?_⟩)
    cases r1 <;> rfl
  | @scr _ ns h1 =>
    cases h
    refine .inl ⟨_, sub_sqL r.sub h1, ?_⟩
    cases ns <;> rfl
  | @cell ad n hn =>
    have h : (match st.om[n]? with | some (Cell.lst xs) => some (!xs.isEmpty) | some (.dK kvs) => some (!kvs.isEmpty) | none => none) = some k := h
    split at h
    · rename_i xs hc
      cases h
      obtain ⟨u, hu, vs, e, hp⟩ := r.cell n _ _ hc hn
      subst e
      refine .inl ⟨_, SqL.of hu, ?_⟩
      cases hp <;> rfl
    · rename_i kvs hc
      cases h
      obtain ⟨u, hu, kws, e, hp⟩ := r.cell n _ _ hc hn
      subst e
      refine .inr (.inr ⟨_, hu, ?_⟩)
      cases hp <;> rfl
    · cases h
theorem good_tru (ha : GoodE K T W ta a) : GoodT K T W (fun σ H Q => ta σ H fun x H' => ∃ k, TruV K x H' k ∧ Q k H') (tTru a) := by
  intro g B ρ st σ H rel
  unfold tTru
  refine Res.bind (U := ta σ H) (U2 := fun x H1 Q => ∃ k, TruV K x H1 k ∧ Q k H1) (O := oD K) (ha.share rel) fun v s1 B1 ρ1 x H1 _ m1 r1 o1 => ?_
  split
  · rename_i k e
    exact Res.now (x := k) (fun Q q => ⟨k, tru_rep r1 o1 e, q⟩) (Mono.refl _ _) r1 rfl
  · trivial
theorem good_truV {i : Nat} : GoodT K T W (fun σ H Q => tVar i σ H fun x H' => ∃ k, TruV K x H' k ∧ Q k H') (tTruV i) := by
  intro g B ρ st σ H r
  unfold tTruV
  split
  · rename_i ds e
    obtain ⟨p, vs, h1, h2, h3⟩ := r.look e
    refine Res.now (x := !ds.isEmpty) (fun Q q => ⟨_, h1, _, .inl ⟨_, SqL.of h2, ?_⟩, q⟩) (Mono.refl _ _) r rfl
    cases h3 <;> rfl
  · trivial
theorem ite_b {P Q : Prop} {b : Bool} (h1 : b = true → P) (h2 : b = false → Q) : if b = true then P else Q := by
  cases b with
  | true => exact h1 rfl
  | false => exact h2 rfl
theorem good_tand (ha : GoodT K T W tt et) (hb : GoodT K T W tu eu) : GoodT K T W (L2.tAnd tt tu) (tAnd et eu) := by
  intro g B ρ st σ H rel
  unfold tAnd L2.tAnd
  refine Res.bind (U := tt σ H) (U2 := fun x H1 Q => if x = true then tu σ H1 Q else Q false H1) (O := oB) (ha g B ρ st σ H rel) fun v s1 B1 ρ1 x H1 _ m1 r1 o1 => ?_
  obtain rfl : x = v := o1
  cases x with
  | true => exact hb g B1 ρ1 s1 σ H1 r1
  | false => exact Res.now (x := false) (fun Q q => q) (Mono.refl _ _) r1 rfl
theorem good_tor (ha : GoodT K T W tt et) (hb : GoodT K T W tu eu) : GoodT K T W (L2.tOr tt tu) (tOr et eu) := by
  intro g B ρ st σ H rel
  unfold tOr L2.tOr
  refine Res.bind (U := tt σ H) (U2 := fun x H1 Q => if x = true then Q true H1 else tu σ H1 Q) (O := oB) (ha g B ρ st σ H rel) fun v s1 B1 ρ1 x H1 _ m1 r1 o1 => ?_
  obtain rfl : x = v := o1
  cases x with
  | true => exact Res.now (x := true) (fun Q q => q) (Mono.refl _ _) r1 rfl
  | false => exact hb g B1 ρ1 s1 σ H1 r1
theorem good_tnot (ha : GoodT K T W tt et) : GoodT K T W (L2.tNot tt) (tNot et) := by
  intro g B ρ st σ H rel
  unfold tNot L2.tNot
  refine Res.bind (U := tt σ H) (U2 := fun x H1 Q => Q (!x) H1) (O := oB) (ha g B ρ st σ H rel) fun v s1 B1 ρ1 x H1 _ m1 r1 o1 => ?_
  obtain rfl : x = v := o1
  exact Res.now (x := !x) (fun Q q => q) (Mono.refl _ _) r1 rfl
theorem good_and (ha : GoodE K T W ta a) (hb : GoodE K T W tb b) : GoodE K T W (tAndV ta tb) (eAnd a b) := by
  intro g B ρ st σ H rel
  unfold eAnd tAndV
  refine Res.bind (U := ta σ H) (U2 := fun x H1 Q => ∃ c, x = .bl c ∧ if c = true then tb σ H1 Q else Q (.bl false) H1) (O := oD K) (ha.share rel) fun v s1 B1 ρ1 x H1 _ m1 r1 o1 => ?_
  have o1 : Rep K B1 ρ1 x v.d := o1
  split
  · rename_i e
    rw [e] at o1
    cases o1
    exact (hb g B1 ρ1 s1 σ H1 r1).conv fun Q q => ⟨true, rfl, q⟩
  · rename_i e
    rw [e] at o1
    cases o1
    exact Res.now (x := .bl false) (fun Q q => ⟨false, rfl, q⟩) (Mono.refl _ _) r1 (.bl _)
  · trivial
theorem good_or (ha : GoodE K T W ta a) (hb : GoodE K T W tb b) : GoodE K T W (tOrV ta tb) (eOr a b) := by
  intro g B ρ st σ H rel
  unfold eOr tOrV
  refine Res.bind (U := ta σ H) (U2 := fun x H1 Q => ∃ c, x = .bl c ∧ if c = true then Q (.bl true) H1 else tb σ H1 Q) (O := oD K) (ha.share rel) fun v s1 B1 ρ1 x H1 _ m1 r1 o1 => ?_
  have o1 : Rep K B1 ρ1 x v.d := o1
  split
  · rename_i e
    rw [e] at o1
    cases o1
    exact Res.now (x := .bl true) (fun Q q => ⟨true, rfl, q⟩) (Mono.refl _ _) r1 (.bl _)
  · rename_i e
    rw [e] at o1
    cases o1
    exact (hb g B1 ρ1 s1 σ H1 r1).conv fun Q q => ⟨false, rfl, q⟩
  · trivial
theorem good_not (ha : GoodE K T W ta a) : GoodE K T W (tNotV ta) (eNot a) := by
  intro g B ρ st σ H rel
  unfold eNot tNotV
  refine Res.bind (U := ta σ H) (U2 := fun x H1 Q => ∃ c, x = V.bl c ∧ Q (V.bl (!c)) H1) (O := oD K) (ha.share rel) fun v s1 B1 ρ1 x H1 _ m1 r1 o1 => ?_
  have o1 : Rep K B1 ρ1 x v.d := o1
  split
  · rename_i k e
    rw [e] at o1
    cases o1
    exact Res.now (x := .bl (!k)) (fun Q q => ⟨k, rfl, q⟩) (Mono.refl _ _) r1 (.bl _)
  · trivial
theorem good_if (ht : GoodT K T W tt et) (ha : GoodE K T W ta a) (hb : GoodE K T W tb b) : GoodE K T W (tIf tt ta tb) (eIf et a b) := by
  intro g B ρ st σ H rel
  unfold eIf tIf
  refine Res.bind (U := tt σ H) (U2 := fun x H1 Q => if x = true then ta σ H1 Q else tb σ H1 Q) (O := oB) (ht g B ρ st σ H rel) fun v s1 B1 ρ1 x H1 _ m1 r1 o1 => ?_
  obtain rfl : x = v := o1
  cases x with
  | true => exact ha g B1 ρ1 s1 σ H1 r1
  | false => exact hb g B1 ρ1 s1 σ H1 r1
theorem good_chain {r r' : R2} {f f' : Op2} (ho : OpG K r f) (ho' : OpG K r' f') (ha : GoodE K T W ta a) (hb : GoodE K T W tb b) (hc : GoodE K T W tc c) : GoodE K T W (tChain r r' ta tb tc) (eChain f f' a b c) := by
  intro g B ρ st σ H rel
  unfold eChain tChain
  refine Res.bind (U := ta σ H) (U2 := fun x H1 Q => tb σ H1 fun y H2 => r x y H2 fun z H3 => ∃ k, z = V.bl k ∧ (if k = true then tc σ H3 fun w' H4 => r' y w' H4 Q else Q (.bl false) H3)) (O := oD K) (ha.share rel) fun v s1 B1 ρ1 x H1 _ m1 r1 o1 => ?_
  refine Res.bind (U := tb σ H1) (U2 := fun y H2 Q => r x y H2 fun z H3 => ∃ k, z = V.bl k ∧ (if k = true then tc σ H3 fun w' H4 => r' y w' H4 Q else Q (.bl false) H3)) (O := oD K) (hb.share r1) fun w s2 B2 ρ2 y H2 _ m2 r2 o2 => ?_
  cases e : f v.d w.d with
  | none => trivial
  | some z =>
    have key : Res K T W g B2 ρ2 σ (fun Q => r x y H2 Q) (oD K) (.ok z s2) := Res.share (U := fun Q => r x y H2 Q) (fun Q hQ => ho g B2 ρ2 s2 σ H2 x y _ _ z r2 (o1.up m2) o2 e Q fun B' x' H' s r' o => hQ B' ρ2 x' H' ⟨s, Pre.refl _⟩ r' o)
    refine Res.bind (r := .ok z s2) (f := fun z s2 => match z.d with | .bl true => (c s2).bind fun z s3 => (match f' w.d z.d with | some w => R.ok w s3 | none => .no) | .bl false => .ok (.sh (.bl false)) s2 | _ => .no)
      (U := fun Q => r x y H2 Q) (U2 := fun z H3 Q => ∃ k, z = V.bl k ∧ (if k = true then tc σ H3 fun w' H4 => r' y w' H4 Q else Q (.bl false) H3)) key fun z' s3 B3 ρ3 u H3 ez m3 r3 o3 => ?_
    cases ez
    have o3 : Rep K B3 ρ3 u z.d := o3
    show Res K T W g B3 ρ3 σ _ _ (match z.d with | .bl true => (c s2).bind fun z s3 => (match f' w.d z.d with | some w => R.ok w s3 | none => .no) | .bl false => .ok (.sh (.bl false)) s2 | _ => .no)
    split
    · rename_i e3
      rw [e3] at o3
      cases o3
      refine Res.conv (U := fun Q => tc σ H3 fun w' H4 => r' y w' H4 Q) ?_ fun Q q => ⟨true, rfl, q⟩
      refine Res.bind (U := tc σ H3) (U2 := fun w' H4 Q => r' y w' H4 Q) (O := oD K) (hc.share r3) fun u4 s4 B4 ρ4 y4 H4 _ m4 r4 o4 => ?_
      cases e4 : f' w.d u4.d with
      | none => trivial
      | some z4 => exact fun Q hQ => ho' g B4 ρ4 s4 σ H4 y y4 _ _ z4 r4 ((o2.up m3).up m4) o4 e4 Q fun B' x' H' s r' o => hQ B' ρ4 x' H' ⟨s, Pre.refl _⟩ r' o
    · rename_i e3
      rw [e3] at o3
      cases o3
      exact Res.now (x := .bl false) (fun Q q => ⟨false, rfl, q⟩) (Mono.refl _ _) r3 (.bl _)
    · trivial

/-! ### built-ins -/
theorem good_b {r : List V → Hp → VK → Prop} {f : OpA} (hf : CallG K r f) (hl : GoodA K T W va l) : GoodE K T W (tCB r va) (eB f l) := by
  intro g B ρ st σ H rel
  unfold eB tCB
  refine Res.bind (U := va σ H) (U2 := fun xs H1 Q => r xs H1 Q) (O := oDs K) (hl g B ρ st σ H rel) fun ds s1 B1 ρ1 xs H1 _ m1 r1 o1 => ?_
  cases e : f ds with
  | none => trivial
  | some z => exact fun Q hQ => hf g B1 ρ1 s1 σ H1 xs ds z r1 o1 e Q fun B' x' H' s r' o => hQ B' ρ1 x' H' ⟨s, Pre.refl _⟩ r' o
def rAbs : List V → Hp → VK → Prop := fun xs H Q => ∃ i, xs = [.int i] ∧ Q (.int (if i < 0 then -i else i)) H
theorem callG_abs : CallG K rAbs bAbs := callG_sh fun B ρ H xs ds v _ r hf => by
  unfold bAbs at hf
  split at hf
  · cases hf
    cases r with
    | cons r rr => cases rr; cases r; exact ⟨_, _, rfl, .int _, fun Q q => ⟨_, rfl, q⟩⟩
  · cases hf
def rMin2 : List V → Hp → VK → Prop := fun xs H Q => ∃ i j, xs = [.int i, .int j] ∧ Q (.int (if j < i then j else i)) H
def rMax2 : List V → Hp → VK → Prop := fun xs H Q => ∃ i j, xs = [.int i, .int j] ∧ Q (.int (if j > i then j else i)) H
theorem callG_min : CallG K rMin2 bMin := callG_sh fun B ρ H xs ds v _ r hf => by
  unfold bMin at hf
  split at hf
  · cases hf
    cases r with
    | cons r rr =>
      cases rr with
      | cons r' rr => cases rr; cases r; cases r'; exact ⟨_, _, rfl, .int _, fun Q q => ⟨_, _, rfl, q⟩⟩
  · cases hf
theorem callG_max : CallG K rMax2 bMax := callG_sh fun B ρ H xs ds v _ r hf => by
  unfold bMax at hf
  split at hf
  · cases hf
    cases r with
    | cons r rr =>
      cases rr with
      | cons r' rr => cases rr; cases r; cases r'; exact ⟨_, _, rfl, .int _, fun Q q => ⟨_, _, rfl, q⟩⟩
  · cases hf
def rInt1 : List V → Hp → VK → Prop := fun xs H Q => (∃ i, xs = [.int i] ∧ Q (.int i) H) ∨ ∃ k, xs = [.bl k] ∧ Q (.int (if k then 1 else 0)) H
theorem callG_int : CallG K rInt1 bInt := callG_sh fun B ρ H xs ds v _ r hf => by
  unfold bInt at hf
  split at hf
  · cases hf
    cases r with
    | cons r rr => cases rr; cases r; exact ⟨_, _, rfl, .int _, fun Q q => .inl ⟨_, rfl, q⟩⟩
  · cases hf
    cases r with
    | cons r rr => cases rr; cases r; exact ⟨_, _, rfl, .int _, fun Q q => .inr ⟨_, rfl, q⟩⟩
  · cases hf
def rListA (K : PySem.W.Frag) : List V → Hp → VK → Prop := fun xs H Q => ∃ p ys, xs = [.ref p] ∧ (SqL K H p ys ∨ SqT K H p ys) ∧ ∀ l, H l = none → Q (.ref l) (upd H l (.lst ys))
theorem callG_list : CallG K (rListA K) bList := by
  intro g B ρ st σ H xs ds v rel r hf Q q
  unfold bList at hf
  split at hf
  · cases hf
    cases r with
    | cons r rr =>
      cases rr
      cases r with
      | lst h1 r1 =>
        refine ⟨_, _, rfl, .inl (SqL.of (rel.sub _ _ h1)), fun p hp => ?_⟩
        obtain ⟨r', o'⟩ := out_new rel hp r1
        exact q B _ _ (Sub.refl _) r' o'
  · cases hf
    cases r with
    | cons r rr =>
      cases rr
      cases r with
      | tup h1 r1 =>
        refine ⟨_, _, rfl, .inr (SqT.of (rel.sub _ _ h1)), fun p hp => ?_⟩
        obtain ⟨r', o'⟩ := out_new rel hp r1
        exact q B _ _ (Sub.refl _) r' o'
  · cases hf
def rTupleA (K : PySem.W.Frag) : List V → Hp → VK → Prop := fun xs H Q => ∃ p ys, xs = [.ref p] ∧ ((SqL K H p ys ∧ ∀ l, H l = none → Q (.ref l) (upd H l (.tup ys))) ∨ (SqT K H p ys ∧ Q (.ref p) H))
theorem callG_tuple : CallG K (rTupleA K) bTuple := by
  intro g B ρ st σ H xs ds v rel r hf Q q
  unfold bTuple at hf
  split at hf
  · cases hf
    cases r with
    | cons r rr =>
      cases rr
      cases r with
      | lst h1 r1 =>
        refine ⟨_, _, rfl, .inl ⟨SqL.of (rel.sub _ _ h1), fun p hp => ?_⟩⟩
        exact q _ _ _ (Sub.new rel hp) (rel.imm hp) (.tup upd_same (r1.mono (Sub.new rel hp) (Pre.refl _)))
  · cases hf
    cases r with
    | cons r rr =>
      cases rr
      cases r with
      | tup h1 r1 => exact ⟨_, _, rfl, .inr ⟨SqT.of (rel.sub _ _ h1), q B _ _ (Sub.refl _) rel (.tup h1 r1)⟩⟩
  · cases hf
theorem bls_rep {B : Hp} {ρ : List Addr} : ∀ {vs : List V} {ds : List D} {bs : List Bool}, Reps K B ρ vs ds → D.bls ds = some bs → vs = bs.map V.bl
  | _, _, _, .nil, h => by cases h; rfl
  | _, _, bs, .cons r t, h => by
    cases r <;> simp only [D.bls, reduceCtorEq] at h
    rename_i b
    cases e : D.bls _ with
    | none => rw [e] at h; cases h
    | some cs =>
      rw [e] at h
      cases h
      rw [bls_rep t e]
      rfl
theorem callG_all : CallG K (rAll K) bAll := callG_sh fun B ρ H xs ds v s r hf => by
  unfold bAll at hf
  split at hf
  · cases r with
    | cons r rr =>
      cases rr
      cases r with
      | lst h1 r1 =>
        cases e : D.bls _ with
        | none => rw [e] at hf; cases hf
        | some bs =>
          rw [e] at hf
          cases hf
          have := bls_rep r1 e
          subst this
          exact ⟨_, _, rfl, .bl _, fun Q q => ⟨_, bs, rfl, SqL.of (s _ _ h1), q⟩⟩
  · cases hf
theorem callG_any : CallG K (rAny K) bAny := callG_sh fun B ρ H xs ds v s r hf => by
  unfold bAny at hf
  split at hf
  · cases r with
    | cons r rr =>
      cases rr
      cases r with
      | lst h1 r1 =>
        cases e : D.bls _ with
        | none => rw [e] at hf; cases hf
        | some bs =>
          rw [e] at hf
          cases hf
          have := bls_rep r1 e
          subst this
          exact ⟨_, _, rfl, .bl _, fun Q q => ⟨_, bs, rfl, SqL.of (s _ _ h1), q⟩⟩
  · cases hf
/-! isinstance -/
def Ty.nm : Ty → String
  | .bool => "bool" | .int => "int" | .str => "str" | .dict => "dict" | .tuple => "tuple" | .list => "list"
def kindNm : D → String
  | .non => "NoneType" | .bl _ => "bool" | .int _ => "int" | .str _ => "str" | .lst _ => "list" | .tup _ => "tuple" | _ => ""
theorem kit_all : ∀ a ∈ ["NoneType", "bool", "int", "str", "list", "tuple"], ∀ b ∈ ["bool", "int", "str", "dict", "tuple", "list"], kitB a b = some (a == b || (a == "bool" && b == "int")) := by decide +kernel
theorem isA_kit {om : List Cell} {d : D} {t : Ty} {b : Bool} (h : d.isA om t = some b) : kitB (kindNm d) t.nm = some b := by
  have h2 : t.nm ∈ ["bool", "int", "str", "dict", "tuple", "list"] := by cases t <;> decide
  have key : ∀ n, kindNm d = n → n ∈ ["NoneType", "bool", "int", "str", "list", "tuple"] → (n == t.nm || (n == "bool" && t.nm == "int")) = b → kitB (kindNm d) t.nm = some b := fun n e1 e2 e3 => by
    rw [e1, kit_all n e2 _ h2, e3]
  cases d with
  | scr xs => cases t <;> cases h
  | cell n => cases t <;> cases h
  | non => cases t <;> cases h <;> exact key "NoneType" rfl (by decide) (by decide)
  | bl b' => cases t <;> cases h <;> exact key "bool" rfl (by decide) (by decide)
  | int i => cases t <;> cases h <;> exact key "int" rfl (by decide) (by decide)
  | str x => cases t <;> cases h <;> exact key "str" rfl (by decide) (by decide)
  | lst xs => cases t <;> cases h <;> exact key "list" rfl (by decide) (by decide)
  | tup xs => cases t <;> cases h <;> exact key "tuple" rfl (by decide) (by decide)
theorem good_isA {t : Ty} (ha : GoodE K T W ta a) : GoodE K T W (tCB (rIsi K) (tCons ta (tCons (tC (.ty t.nm)) tNil))) (eIsA a t) := by
  intro g B ρ st σ H rel
  unfold eIsA
  show Res K T W g B ρ σ (fun Q => ta σ H fun x H1 => rIsi K [x, .ty t.nm] H1 Q) _ _
  refine Res.bind (U := ta σ H) (U2 := fun x H1 Q => rIsi K [x, .ty t.nm] H1 Q) (O := oD K) (ha.share rel) fun v s1 B1 ρ1 x H1 _ m1 r1 o1 => ?_
  have o1 : Rep K B1 ρ1 x v.d := o1
  split
  · rename_i b e
    have hk := kit_ty (K := K) (isA_kit e)
    refine Res.now (x := .bl b) (fun Q q => ⟨x, _, .type (kindNm v.d), _, b, rfl, .ty _, ?_, hk, q⟩) (Mono.refl _ _) r1 (.bl _)
    cases hd : v.d with
    | non => rw [hd] at o1; cases o1; exact .base .non
    | bl b' => rw [hd] at o1; cases o1; exact .base (.bl _)
    | int i => rw [hd] at o1; cases o1; exact .base (.int _)
    | str y => rw [hd] at o1; cases o1; exact .base (.str _)
    | lst xs =>
      rw [hd] at o1
      cases o1 with
      | lst h1 _ => exact .base (.lst (r1.sub _ _ h1))
    | tup xs =>
      rw [hd] at o1
      cases o1 with
      | tup h1 _ => exact .base (.tup (r1.sub _ _ h1))
    | scr xs => rw [hd] at e; cases t <;> cases e
    | cell n => rw [hd] at e; cases t <;> cases e
  · trivial

/-! ### calls of defs -/
/-- a def's promise: it gives what F says -/
def spD (K : PySem.W.Frag) (T : XT) (n : Nat) (F : Fn) : Sp := fun vs H Q E => vs.length = n ∧ ∃ B ρ ds om, Rel K (callG B ρ H) B ρ ⟨[], om⟩ [] H ∧ Reps K B ρ vs ds ∧
  match F ds om with
  | .ok v om' => ∀ B' ρ' x H', Mono B ρ B' ρ' → Rel K (callG B ρ H) B' ρ' ⟨[], om'⟩ [] H' → OutR K (callG B ρ H) B' ρ' ⟨[], om'⟩ [] H' x v → Q x H'
  | .ex xc om' => ∀ B' ρ' cls d H', Mono B ρ B' ρ' → Rel K (callG B ρ H) B' ρ' ⟨[], om'⟩ [] H' → XcR K T B' ρ' H' xc cls d → E cls d H'
  | .no => False
theorem good_call {F : Fn} {n : Nat} (hn : ∀ g B ρ st σ H ds s1, Rel K g B ρ st σ H → l st = .ok ds s1 → ds.length = n) (hl : GoodA K T W va l) : GoodE K T W (tCallS (spD K T n F) (WE W) va) (eCall F l) := by
  intro g B ρ st σ H rel
  unfold eCall tCallS
  refine Res.bind (U := va σ H) (U2 := fun xs H1 Q => spD K T n F xs H1 Q (WE W σ)) (O := oDs K) (hl g B ρ st σ H rel) fun ds s1 B1 ρ1 xs H1 e0 m1 r1 o1 => ?_
  have hlen : xs.length = n := by
    rw [Reps.length o1]
    exact hn g B ρ st σ H ds s1 rel e0
  have c1 := r1.toCall
  cases e : F ds s1.om with
  | no => trivial
  | ok v om =>
    refine fun Q hQ => ⟨hlen, B1, ρ1, ds, s1.om, c1, o1, ?_⟩
    rw [e]
    exact fun B' ρ' x H' m r o => hQ B' ρ' x H' m (r1.ofCall m.r r) (OutR.ofCall r1 m.r r o)
  | ex xc om =>
    refine fun Q hQ => ⟨hlen, B1, ρ1, ds, s1.om, c1, o1, ?_⟩
    rw [e]
    exact fun B' ρ' cls d H' m r o => hQ B' ρ' cls d H' m (r1.ofCall m.r r) o
/-- so many arguments -/
def Ar (n : Nat) (l : EvA) : Prop := ∀ st ds s1, l st = .ok ds s1 → ds.length = n
theorem ar_nil : Ar 0 aNil := fun st ds s1 e => by cases e; rfl
theorem ar_cons {n : Nat} (h : Ar n l) : Ar (n + 1) (aCons a l) := fun st ds s1 e => by
  unfold aCons at e
  cases e1 : a st with
  | no => rw [e1] at e; cases e
  | ex x s => rw [e1] at e; cases e
  | ok v s =>
    rw [e1, R.bind_ok] at e
    cases e2 : l s with
    | no => rw [e2] at e; cases e
    | ex x s => rw [e2] at e; cases e
    | ok vs s' =>
      rw [e2, R.bind_ok] at e
      cases e
      rw [List.length_cons, h _ _ _ e2]
theorem good_fn {F : Fn} {n : Nat} (hn : Ar n l) (hl : GoodA K T W va l) : GoodE K T W (tCallS (spD K T n F) (WE W) va) (eCall F l) := good_call (fun _ _ _ st _ _ ds s1 _ e => hn st ds s1 e) hl
end
end Mini

set_option Elab.async false
set_option linter.all false
set_option maxRecDepth 100000
set_option maxHeartbeats 1000000
/-! PySE5: what is walked, targets, comprehensions. -/
namespace Mini
open PySem PySem.Spec PyProof.Rows L2
/-- J walks the items xs -/
def ItR (K : PySem.W.Frag) (B : Hp) (ρ : List Addr) (J : It) (xs : List D) : Prop := ∀ g i B1 ρ1 st σ H, Mono B ρ B1 ρ1 → Rel K g B1 ρ1 st σ H →
  (∀ d, xs[i]? = some d → J.go i H ∧ ∀ x H', J.yld i H x H' → ∃ B2, Sub B1 B2 ∧ Rel K g B2 ρ1 st σ H' ∧ Rep K B2 ρ1 x d) ∧ (xs.length ≤ i → J.stop i H)
def GoodI (K : PySem.W.Frag) (T : XT) (W : WX) (t : TI) (e : EvI) : Prop := ∀ g B ρ st σ H, Rel K g B ρ st σ H → Res K T W g B ρ σ (t σ H) (fun xs B' ρ' _ _ J => ItR K B' ρ' J xs) (e st)
section
variable {K : PySem.W.Frag} {T : XT} {W : WX} {ta tb tc : TE} {a b c : EvE} {va : TA} {l : EvA} {tt tu : TT} {et eu : EvT}
theorem itR_same {B : Hp} {ρ : List Addr} {J : It} {vs : List V} {ds : List D} (r : Reps K B ρ vs ds) (h : ∀ H, Sub B H → (∀ i v, vs[i]? = some v → J.go i H ∧ ∀ x H', J.yld i H x H' → H' = H ∧ x = v) ∧ ∀ i, vs.length ≤ i → J.stop i H) : ItR K B ρ J ds := by
  intro g i B1 ρ1 st σ H m rel
  obtain ⟨h1, h2⟩ := h H (m.b.trans rel.sub)
  refine ⟨fun d hd => ?_, fun hi => h2 i (by rw [r.length]; exact hi)⟩
  obtain ⟨v, hv, rv⟩ := r.get hd
  obtain ⟨go, y⟩ := h1 i v hv
  refine ⟨go, fun x H' hy => ?_⟩
  obtain ⟨rfl, rfl⟩ := y x H' hy
  exact ⟨B1, Sub.refl _, rel, rv.up m⟩
theorem good_iseq (ha : GoodE K T W ta a) : GoodI K T W (iList K ta) (iSeq a) := by
  intro g B ρ st σ H rel
  unfold iSeq iList
  refine Res.bind (U := ta σ H) (U2 := fun x H1 R => ∃ a, x = V.ref a ∧ (∃ xs, SqL K H1 a xs) ∧ R (Itl K a) H1) (O := oD K) (ha.share rel) fun v s1 B1 ρ1 x H1 _ m1 r1 o1 => ?_
  have o1 : Rep K B1 ρ1 x v.d := o1
  split
  · rename_i xs e
    rw [e] at o1
    cases o1 with
    | @lst ad vs _ h1 h2 =>
      refine Res.now (x := Itl K ad) (fun Q q => ⟨_, rfl, ⟨_, SqL.of (r1.sub _ _ h1)⟩, q⟩) (Mono.refl _ _) r1 (itR_same h2 fun H' s => ⟨fun i v hv => ⟨⟨_, _, SqL.of (s _ _ h1), hv⟩, fun x H2 y => ⟨y.1, Option.some.inj ((y.2 _ (SqL.of (s _ _ h1))).symm.trans hv)⟩⟩, fun i hi => ⟨_, SqL.of (s _ _ h1), hi⟩⟩)
  · trivial
theorem good_ituple (ha : GoodE K T W ta a) : GoodI K T W (L2.iTup K ta) (iTup a) := by
  intro g B ρ st σ H rel
  unfold iTup L2.iTup
  refine Res.bind (U := ta σ H) (U2 := fun x H1 R => ∃ a, x = V.ref a ∧ (∃ xs, SqT K H1 a xs) ∧ R (Itt K a) H1) (O := oD K) (ha.share rel) fun v s1 B1 ρ1 x H1 _ m1 r1 o1 => ?_
  have o1 : Rep K B1 ρ1 x v.d := o1
  split
  · rename_i xs e
    rw [e] at o1
    cases o1 with
    | @tup ad vs _ h1 h2 =>
      refine Res.now (x := Itt K ad) (fun Q q => ⟨_, rfl, ⟨_, SqT.of (r1.sub _ _ h1)⟩, q⟩) (Mono.refl _ _) r1 (itR_same h2 fun H' s => ⟨fun i v hv => ⟨⟨_, _, SqT.of (s _ _ h1), hv⟩, fun x H2 y => ⟨y.1, Option.some.inj ((y.2 _ (SqT.of (s _ _ h1))).symm.trans hv)⟩⟩, fun i hi => ⟨_, SqT.of (s _ _ h1), hi⟩⟩)
  · trivial
theorem range_get (lo : Int) (n i : Nat) : (rangeD lo n)[i]? = if i < n then some (.int (lo + (i : Int))) else none := by
  unfold rangeD
  rw [List.getElem?_map]
  by_cases h : i < n
  · rw [if_pos h, List.getElem?_range h]
    rfl
  · rw [if_neg h, List.getElem?_eq_none (by simpa using h)]
    rfl
theorem range_len (lo : Int) (n : Nat) : (rangeD lo n).length = n := by unfold rangeD; simp
theorem itR_range {B : Hp} {ρ : List Addr} {lo : Int} {n : Nat} : ItR K B ρ (Itr lo n) (rangeD lo n) := by
  intro g i B1 ρ1 st σ H m rel
  rw [range_len]
  refine ⟨fun d hd => ?_, fun hi => hi⟩
  rw [range_get] at hd
  split at hd
  · rename_i hi
    cases hd
    refine ⟨hi, fun x H' hy => ?_⟩
    obtain ⟨rfl, rfl⟩ := hy
    exact ⟨B1, Sub.refl _, rel, .int _⟩
  · cases hd
theorem ints1 {B : Hp} {ρ : List Addr} {vs : List V} {i : Int} (r : Reps K B ρ vs [.int i]) : vs = [.int i] := by
  cases r with
  | cons r t => cases t; cases r; rfl
theorem ints2 {B : Hp} {ρ : List Addr} {vs : List V} {i j : Int} (r : Reps K B ρ vs [.int i, .int j]) : vs = [.int i, .int j] := by
  cases r with
  | cons r t => rw [ints1 t]; cases r; rfl
theorem good_irange1 (hl : GoodA K T W va l) : GoodI K T W (iRng1 va) (iRange1 l) := by
  intro g B ρ st σ H rel
  unfold iRange1 iRng1
  refine Res.bind (U := va σ H) (U2 := fun vs H1 R => ∃ j : Int, vs = [V.int j] ∧ -(2 ^ 62) ≤ j ∧ j < 2 ^ 62 ∧ R (Itr 0 j.toNat) H1) (O := oDs K) (hl g B ρ st σ H rel) fun ds s1 B1 ρ1 xs H1 _ m1 r1 o1 => ?_
  have o1 : Reps K B1 ρ1 xs ds := o1
  split
  · rename_i j _ _
    have e := ints1 o1
    split
    · rename_i hz
      unfold far at hz
      exact Res.now (x := Itr 0 j.toNat) (fun Q q => ⟨j, e, by omega, by omega, q⟩) (Mono.refl _ _) r1 itR_range
    · trivial
  · trivial
theorem good_irange2 (hl : GoodA K T W va l) : GoodI K T W (iRng2 va) (iRange2 l) := by
  intro g B ρ st σ H rel
  unfold iRange2 iRng2
  refine Res.bind (U := va σ H) (U2 := fun vs H1 R => ∃ i j : Int, vs = [V.int i, V.int j] ∧ (-(2 ^ 62) ≤ i ∧ i < 2 ^ 62 ∧ -(2 ^ 62) ≤ j ∧ j < 2 ^ 62) ∧ R (Itr i (j - i).toNat) H1) (O := oDs K) (hl g B ρ st σ H rel) fun ds s1 B1 ρ1 xs H1 _ m1 r1 o1 => ?_
  have o1 : Reps K B1 ρ1 xs ds := o1
  split
  · rename_i i j _ _
    have e := ints2 o1
    split
    · rename_i hz
      unfold far at hz
      exact Res.now (x := Itr i (j - i).toNat) (fun Q q => ⟨i, j, e, ⟨by omega, by omega, by omega, by omega⟩, q⟩) (Mono.refl _ _) r1 itR_range
    · trivial
  · trivial
theorem zip_get {α β : Type} (xs : List α) (ys : List β) (i : Nat) {x : α} {y : β} (h : (xs.zip ys)[i]? = some (x, y)) : xs[i]? = some x ∧ ys[i]? = some y := by
  rw [List.getElem?_zip_eq_some] at h
  exact h
theorem good_izip (hl : GoodA K T W va l) : GoodI K T W (L2.iZip K va) (iZip l) := by
  intro g B ρ st σ H rel
  unfold iZip L2.iZip
  refine Res.bind (U := va σ H) (U2 := fun vs H1 R => ∃ a b xs ys, vs = [V.ref a, V.ref b] ∧ SqL K H1 a xs ∧ SqL K H1 b ys ∧ R (Itz K a b) H1) (O := oDs K) (hl g B ρ st σ H rel) fun ds s1 B1 ρ1 vs H1 _ m1 r1 o1 => ?_
  have o1 : Reps K B1 ρ1 vs ds := o1
  split
  · rename_i xs ys _ _
    cases o1 with
    | cons ra t =>
      cases t with
      | cons rb t =>
        cases t
        cases ra with
        | @lst aa us _ h1 h2 =>
          cases rb with
          | @lst ab ws _ h3 h4 =>
            refine Res.now (x := Itz K aa ab) (fun Q q => ⟨_, _, _, _, rfl, SqL.of (r1.sub _ _ h1), SqL.of (r1.sub _ _ h3), q⟩) (Mono.refl _ _) r1 ?_
            intro g' i B2 ρ2 st2 σ2 H2 m2 rel2
            have e1 : SqL K H2 aa us := SqL.of (rel2.sub _ _ (m2.b _ _ h1))
            have e2 : SqL K H2 ab ws := SqL.of (rel2.sub _ _ (m2.b _ _ h3))
            refine ⟨fun d hd => ?_, fun hi => ⟨us, ws, e1, e2, ?_⟩⟩
            · rw [List.getElem?_map] at hd
              cases e : (xs.zip ys)[i]? with
              | none => rw [e] at hd; cases hd
              | some p =>
                rw [e] at hd
                cases hd
                obtain ⟨hx, hy⟩ := zip_get xs ys i (x := p.1) (y := p.2) e
                obtain ⟨u, hu, ru⟩ := h2.get hx
                obtain ⟨w, hw, rw'⟩ := h4.get hy
                refine ⟨⟨us, ws, u, w, e1, e2, hu, hw⟩, fun x H' hyl => ?_⟩
                obtain ⟨Tt, x1, x2, rfl, nT, rfl, f1, f2⟩ := hyl
                have ex1 : x1 = u := Option.some.inj ((f1 _ e1).symm.trans hu)
                have ex2 : x2 = w := Option.some.inj ((f2 _ e2).symm.trans hw)
                subst ex1 ex2
                have sN := Sub.new (o := .tup [x1, x2]) rel2 nT
                exact ⟨_, sN, rel2.imm nT, .tup upd_same (.cons ((ru.up m2).mono sN (Pre.refl _)) (.cons ((rw'.up m2).mono sN (Pre.refl _)) .nil))⟩
            · rw [List.length_map, List.length_zip] at hi
              rw [h2.length, h4.length]
              omega
  · trivial

/-! ### targets -/
def GoodG (K : PySem.W.Frag) (t : TG) (e : EvG) (vs : List Nat) : Prop := ∀ g B ρ st σ H x d st', Rel K g B ρ st σ H → Rep K B ρ x d → e d st = some st' →
  ∀ Q : L2.St → Hp → Prop, (∀ σ', Rel K g B ρ st' σ' H → (σ'.length = σ.length ∧ ∀ j, j ∉ vs → σ'[j]? = σ[j]?) → Q σ' H) → t x σ H Q
def GoodGs (K : PySem.W.Frag) (t : TGs) (e : EvGs) (vs : List Nat) : Prop := ∀ g B ρ st σ H xs ds st', Rel K g B ρ st σ H → Reps K B ρ xs ds → e ds st = some st' →
  ∀ Q : L2.St → Hp → Prop, (∀ σ', Rel K g B ρ st' σ' H → (σ'.length = σ.length ∧ ∀ j, j ∉ vs → σ'[j]? = σ[j]?) → Q σ' H) → t xs σ H Q
def LenG (e : EvGs) (n : Nat) : Prop := ∀ ds st st', e ds st = some st' → ds.length = n
theorem lenG_nil : LenG gNone 0 := fun ds st st' h => by
  unfold gNone at h
  split at h
  · rfl
  · cases h
theorem lenG_cons {g : EvG} {e : EvGs} {n : Nat} (h : LenG e n) : LenG (gMore g e) (n + 1) := fun ds st st' he => by
  unfold gMore at he
  split at he
  · rename_i d ds
    cases e1 : g d st with
    | none => rw [e1] at he; cases he
    | some s1 =>
      rw [e1] at he
      rw [List.length_cons, h ds s1 st' he]
  · cases he
theorem good_gname {i : Nat} : GoodG K (gName i) (gNm i) [i] := by
  intro g B ρ st σ H x d st' rel r e Q q
  unfold gNm at e
  split at e
  · rename_i hi
    cases e
    refine q _ (rel.setSlot (v := .sh d) hi r) ⟨List.length_set, fun j hj => ?_⟩
    rw [getElem?_set', if_neg (fun z => hj (by simp [z]))]
  · cases e
theorem good_gnil : GoodGs K gNil gNone [] := by
  intro g B ρ st σ H xs ds st' rel r e Q q
  unfold gNone at e
  split at e
  · cases e
    cases r
    exact ⟨rfl, q σ rel ⟨rfl, fun _ _ => rfl⟩⟩
  · cases e
theorem good_gcons {t : TG} {u : TGs} {e : EvG} {es : EvGs} {vs ws : List Nat} (h1 : GoodG K t e vs) (h2 : GoodGs K u es ws) : GoodGs K (gCons t u) (gMore e es) (vs ++ ws) := by
  intro g B ρ st σ H xs ds st' rel r he Q q
  unfold gMore at he
  split at he
  · rename_i d ds
    cases r with
    | @cons x xs _ _ rx rxs =>
      cases e1 : e d st with
      | none => rw [e1] at he; cases he
      | some s1 =>
        rw [e1] at he
        have he : es ds s1 = some st' := he
        refine ⟨x, xs, rfl, h1 g B ρ st σ H x d s1 rel rx e1 _ fun σ' r' hj => ?_⟩
        exact h2 g B ρ s1 σ' H xs ds st' r' rxs he Q fun σ2 r2 hj2 => q σ2 r2 ⟨hj2.1.trans hj.1, fun j hm => by
          rw [List.mem_append, not_or] at hm
          rw [hj2.2 j hm.2, hj.2 j hm.1]⟩
  · cases he
theorem good_gtup {t : TGs} {e : EvGs} {n : Nat} {vs : List Nat} (hn : LenG e n) (h : GoodGs K t e vs) : GoodG K (gTup K n t) (gTp e) vs := by
  intro g B ρ st σ H x d st' rel r he Q q
  unfold gTp at he
  split at he
  · rename_i ds
    cases r with
    | tup h1 h2 => exact ⟨_, _, rfl, SqT.of (rel.sub _ _ h1), by rw [h2.length, hn _ _ _ he], h g B ρ st σ H _ ds st' rel h2 he Q q⟩
  · cases he

/-! ### comprehensions -/
theorem wipeEnv_get {env : List (Option Vl)} : ∀ {vs : List Nat} {j : Nat} {v : Vl}, (wipeEnv env vs)[j]? = some (some v) → j ∉ vs ∧ env[j]? = some (some v)
  | [], j, v, h => ⟨by simp, h⟩
  | w :: vs, j, v, h => by
    have h' : ((wipeEnv env vs).set w none)[j]? = some (some v) := h
    rw [getElem?_set'] at h'
    by_cases hj : w = j
    · rw [if_pos hj] at h'
      split at h' <;> cases h'
    · rw [if_neg hj] at h'
      obtain ⟨h1, h2⟩ := wipeEnv_get h'
      exact ⟨by simp only [List.mem_cons, not_or]; exact ⟨fun z => hj z.symm, h1⟩, h2⟩
theorem wipeEnv_len {env : List (Option Vl)} : ∀ {vs : List Nat}, (wipeEnv env vs).length = env.length
  | [] => rfl
  | w :: vs => by
    show ((wipeEnv env vs).set w none).length = _
    rw [List.length_set, wipeEnv_len]
theorem Rel.wipe {g : Gx} {B : Hp} {ρ : List Addr} {st : St} {σ : L2.St} {H : Hp} (r : Rel K g B ρ st σ H) {vs : List Nat} : Rel K g B ρ { st with env := wipeEnv st.env vs } (wipe σ vs) H := by
  refine ⟨by show (wipeEnv st.env vs).length = _; rw [wipeEnv_len, wipe_length]; exact r.len, r.sub, r.prot, r.new, r.nd, r.cl, r.cell, r.cellN, fun i v e => ?_, fun i ds p e1 e2 => ?_, fun i j ds es p e1 e2 e3 e4 => ?_, r.old⟩
  · obtain ⟨h1, h2⟩ := wipeEnv_get e
    rw [wipe_out h1]
    exact r.slot i v h2
  · obtain ⟨h1, h2⟩ := wipeEnv_get e1
    rw [wipe_out h1] at e2
    exact r.own i ds p h2 e2
  · obtain ⟨h1, h2⟩ := wipeEnv_get e1
    obtain ⟨h3, h4⟩ := wipeEnv_get e2
    rw [wipe_out h1] at e3
    rw [wipe_out h3] at e4
    exact r.uni i j ds es p h2 h4 e3 e4
theorem restore_get {env env' : List (Option Vl)} (hl : env'.length = env.length) : ∀ {vs : List Nat} {j : Nat} {v : Vl}, (restore env env' vs)[j]? = some (some v) → (j ∈ vs ∧ env[j]? = some (some v)) ∨ (j ∉ vs ∧ env'[j]? = some (some v))
  | [], j, v, h => .inr ⟨by simp, h⟩
  | w :: vs, j, v, h => by
    have h' : ((restore env env' vs).set w (env[w]?.getD none))[j]? = some (some v) := h
    rw [getElem?_set'] at h'
    by_cases hj : w = j
    · rw [if_pos hj] at h'
      split at h'
      · have e : env[w]?.getD none = some v := Option.some.inj h'
        refine .inl ⟨by simp [hj], ?_⟩
        rw [← hj]
        cases q : env[w]? with
        | none => rw [q] at e; cases e
        | some u =>
          rw [q] at e
          have e' : u = some v := e
          rw [e']
      · cases h'
    · rw [if_neg hj] at h'
      rcases restore_get hl h' with ⟨h1, h2⟩ | ⟨h1, h2⟩
      · exact .inl ⟨by simp [h1], h2⟩
      · exact .inr ⟨by simp only [List.mem_cons, not_or]; exact ⟨fun z => hj z.symm, h1⟩, h2⟩
theorem restore_len {env env' : List (Option Vl)} : ∀ {vs : List Nat}, (restore env env' vs).length = env'.length
  | [] => rfl
  | w :: vs => by
    show ((restore env env' vs).set w _).length = _
    rw [List.length_set, restore_len]
theorem calm_get {env : List (Option Vl)} {vs : List Nat} (h : calmSlots env vs = true) {j : Nat} (hj : j ∈ vs) {ds : List D} : env[j]? ≠ some (some (.ow ds)) := fun e => by
  unfold calmSlots at h
  rw [List.all_eq_true] at h
  have := h j hj
  rw [e] at this
  cases this
theorem Rel.back {g : Gx} {B B' : Hp} {ρ ρ' : List Addr} {st st' : St} {σ : L2.St} {H H' : Hp} (r : Rel K g B ρ st σ H) (m : Mono B ρ B' ρ') {vs : List Nat} (hc : calmSlots st.env vs = true) (r' : Rel K g B' ρ' st' (L2.wipe σ vs) H') :
    Rel K g B' ρ' { st' with env := restore st.env st'.env vs } σ H' := by
  have hl : st'.env.length = st.env.length := by
    rw [r'.len, wipe_length, r.len]
  have own' : ∀ i ds, (restore st.env st'.env vs)[i]? = some (some (Vl.ow ds)) → i ∉ vs ∧ st'.env[i]? = some (some (.ow ds)) := fun i ds e => by
    rcases restore_get hl e with ⟨h1, h2⟩ | h
    · exact absurd h2 (calm_get hc h1)
    · exact h
  refine ⟨by show (restore st.env st'.env vs).length = _; rw [restore_len, hl]; exact r.len, r'.sub, r'.prot, r'.new, r'.nd, r'.cl, r'.cell, r'.cellN, fun i v e => ?_, fun i ds p e1 e2 => ?_, fun i j ds es p e1 e2 e3 e4 => ?_, r'.old⟩
  · rcases restore_get hl e with ⟨h1, h2⟩ | ⟨h1, h2⟩
    · obtain ⟨x, h3, h4⟩ := r.slot i v h2
      refine ⟨x, h3, ?_⟩
      cases v with
      | sh d => exact h4.mono m.b m.r
      | ow ds => exact absurd h2 (calm_get hc h1)
    · obtain ⟨x, h3, h4⟩ := r'.slot i v h2
      rw [wipe_out h1] at h3
      exact ⟨x, h3, h4⟩
  · obtain ⟨h1, h2⟩ := own' i ds e1
    rw [← wipe_out h1] at e2
    exact r'.own i ds p h2 e2
  · obtain ⟨h1, h2⟩ := own' i ds e1
    obtain ⟨h3, h4⟩ := own' j es e2
    rw [← wipe_out h1] at e3
    rw [← wipe_out h3] at e4
    exact r'.uni i j ds es p h2 h4 e3 e4
abbrev WF : WX := fun _ _ _ _ => False
theorem wipe_eq {σ σ' : L2.St} {vs : List Nat} (hl : σ'.length = σ.length) (h : ∀ j, j ∉ vs → σ'[j]? = σ[j]?) : L2.wipe σ' vs = L2.wipe σ vs := by
  have hin : ∀ (σ : L2.St) (vs : List Nat) (j : Nat), j ∈ vs → j < σ.length → (L2.wipe σ vs)[j]? = some none := by
    intro σ vs
    induction vs with
    | nil => intro j hj; simp at hj
    | cons w vs ih =>
      intro j hj hlt
      show ((L2.wipe σ vs).set w none)[j]? = some none
      rw [getElem?_set']
      by_cases e : w = j
      · rw [if_pos e, if_pos (by rw [wipe_length, e]; exact hlt)]
      · rw [if_neg e]
        rcases List.mem_cons.mp hj with z | z
        · exact absurd z.symm e
        · exact ih j z hlt
  apply List.ext_getElem?
  intro j
  by_cases hlt : j < σ.length
  · by_cases hj : j ∈ vs
    · rw [hin σ vs j hj hlt, hin σ' vs j hj (by rw [hl]; exact hlt)]
    · rw [wipe_out hj, wipe_out hj, h j hj]
  · rw [List.getElem?_eq_none (by rw [wipe_length, hl]; omega), List.getElem?_eq_none (by rw [wipe_length]; omega)]
theorem wipe_wipe {σ : L2.St} {vs : List Nat} : L2.wipe (L2.wipe σ vs) vs = L2.wipe σ vs := wipe_eq (wipe_length σ vs) fun j hj => wipe_out hj
theorem Lone.wiped {g : Gx} {B : Hp} {ρ : List Addr} {st : St} {σ σ' : L2.St} {p : Addr} {vs : List Nat} (l : Lone g B ρ st σ p) (h : ∀ j, j ∉ vs → σ'[j]? = σ[j]?) : Lone g B ρ { st with env := wipeEnv st.env vs } σ' p :=
  ⟨l.nb, l.np, l.nc, fun i ds e => by
    obtain ⟨h1, h2⟩ := wipeEnv_get e
    rw [h i h1]
    exact l.ns i ds h2⟩
theorem good_comp {wi : TI} {i : EvI} {tg : TG} {gv : EvG} {vs ws : List Nat} (hw : ∀ j ∈ ws, j ∈ vs) (hi : GoodI K T W wi i) (hg : GoodG K tg gv ws) (ht : GoodT K T WF tt et) (he : GoodE K T WF ta a) :
    GoodE K T W (tLc wi tg tt ta vs) (eComp i gv et a vs) := by
  intro g B ρ st σ H rel
  unfold eComp tLc
  refine Res.bind (U := wi σ H) (hi g B ρ st σ H rel) fun xs s1 B1 ρ1 J H1 _ m1 r1 itr => ?_
  split
  · rename_i hc
    cases er : compGo gv et a vs xs [] { s1 with env := wipeEnv s1.env vs } with
    | no => trivial
    | ex xc s => trivial
    | ok ys s2 =>
      intro Q hQ Dl hD
      have lo0 := r1.lone hD
      refine ⟨fun k m H' => m = xs.length - k ∧ k ≤ xs.length ∧ ∃ B2 ρ2 st2 acc us, Mono B1 ρ1 B2 ρ2 ∧ Rel K g B2 ρ2 st2 (L2.wipe σ vs) H' ∧ Lone g B2 ρ2 st2 (L2.wipe σ vs) Dl ∧ H' Dl = some (.lst us) ∧ Reps K B2 ρ2 us acc ∧ compGo gv et a vs (xs.drop k) acc st2 = .ok ys s2, ⟨xs.length, by simp, Nat.zero_le _, B1, ρ1, _, [], [], Mono.refl _ _, (r1.put lo0).wipe, lo0.wiped fun j hj => wipe_out hj, upd_same, .nil, er⟩, ?_⟩
      rintro k m H2 ⟨rfl, hk, B2, ρ2, st2, acc, us, m2, r2, lo, hu, ru, go⟩
      by_cases hlt : k < xs.length
      · have hx : xs[k]? = some xs[k] := List.getElem?_eq_getElem hlt
        rw [List.drop_eq_getElem_cons hlt] at go
        unfold compGo at go
        have rg := r2.guard lo hu
        obtain ⟨jg, jy⟩ := (itr _ k B2 ρ2 st2 _ H2 m2 rg).1 _ hx
        refine .inr ⟨jg, fun H' => ∃ B3 ρ3 st3 acc3 us3, Mono B1 ρ1 B3 ρ3 ∧ Rel K g B3 ρ3 st3 (L2.wipe σ vs) H' ∧ Lone g B3 ρ3 st3 (L2.wipe σ vs) Dl ∧ H' Dl = some (.lst us3) ∧ Reps K B3 ρ3 us3 acc3 ∧ compGo gv et a vs (xs.drop (k + 1)) acc3 st3 = .ok ys s2, fun H' nx => ⟨xs.length - (k + 1), by omega, rfl, hlt, nx⟩, fun x H' hy => ?_⟩
        obtain ⟨B3, s3, r3, rx⟩ := jy x H' hy
        have m3 : Mono B1 ρ1 B3 ρ2 := ⟨m2.b.trans s3, m2.r⟩
        cases eg : gv xs[k] st2 with
        | none => rw [eg] at go; cases go
        | some s4 =>
          rw [eg] at go
          refine hg _ B3 ρ2 st2 _ H' x _ s4 r3 rx eg _ fun σ4 r4 hj4 => ?_
          have hl4 : σ4.length = (L2.wipe σ vs).length := hj4.1
          have hw4 : L2.wipe σ4 vs = L2.wipe σ vs := by
            rw [wipe_eq hl4 fun j hj => hj4.2 j fun z => hj (hw j z), wipe_wipe]
          have out4 : ∀ j, j ∉ vs → (L2.wipe σ vs)[j]? = σ4[j]? := fun j hj => (hj4.2 j fun z => hj (hw j z)).symm
          have h0 : g.B0 Dl = none := lo.no0 r2
          have hP : g.P Dl = none := lo.np
          refine ⟨hw4, ?_⟩
          have zt := ht _ B3 ρ2 s4 σ4 H' r4
          have go : ((et s4).bind fun b s2 => if b = true then (a s2).bind fun y s3 => (if acc.length < many then compGo gv et a vs (xs.drop (k + 1)) (acc ++ [y.d]) { s3 with env := wipeEnv s3.env vs } else .no) else compGo gv et a vs (xs.drop (k + 1)) acc { s2 with env := wipeEnv s2.env vs }) = .ok ys s2 := go
          cases et' : et s4 with
          | no => rw [et'] at go; cases go
          | ex x s => rw [et'] at go; cases go
          | ok b s5 =>
            rw [et'] at zt go
            rw [R.bind_ok] at go
            refine zt _ fun B5 ρ5 b' H5 m5 r5 o5 => ?_
            have m5' : Mono B1 ρ1 B5 ρ5 := m3.trans m5
            cases b with
            | false =>
              obtain rfl : b' = false := o5
              rw [if_neg (by decide)] at go ⊢
              obtain ⟨r6, h6, lo6⟩ := r5.unguard h0 hP
              have r7 := r6.wipe (vs := vs)
              rw [hw4] at r7
              exact ⟨B5, ρ5, _, acc, us, m5', r7, lo6.wiped out4, h6, ru.up ((Mono.trans ⟨s3, Pre.refl _⟩ m5)), go⟩
            | true =>
              obtain rfl : b' = true := o5
              rw [if_pos rfl] at go ⊢
              have ze := (he _ B5 ρ5 s5 σ4 H5 r5).share
              cases ea : a s5 with
              | no => rw [ea] at go; cases go
              | ex x s => rw [ea] at go; cases go
              | ok v s6 =>
                rw [ea] at ze go
                rw [R.bind_ok] at go
                split at go
                · rename_i hz
                  refine ze _ fun B6 ρ6 y H6 m6 r6 o6 => ?_
                  obtain ⟨r7, h7, lo7⟩ := r6.unguard h0 hP
                  have ru6 : Reps K B6 ρ6 us acc := ru.up ((Mono.trans ⟨s3, Pre.refl _⟩ m5).trans m6)
                  refine ⟨us, h7, many_lt (by rw [ru.length]; exact hz), ?_⟩
                  have r8 := (r7.put (o := .lst (us ++ [y])) lo7).wipe (vs := vs)
                  rw [hw4] at r8
                  exact ⟨B6, ρ6, _, acc ++ [v.d], us ++ [y], m5'.trans m6, r8, lo7.wiped out4, upd_same, ru6.append (Reps.one o6), go⟩
                · cases go
      · have e : k = xs.length := by omega
        refine .inl ⟨(itr g k B2 ρ2 st2 _ H2 m2 r2).2 (by omega), ?_⟩
        rw [e, List.drop_length] at go
        cases go
        have lo' : Lone g B2 ρ2 { s2 with env := restore s1.env s2.env vs } σ Dl := by
          have hl : s2.env.length = s1.env.length := by
            rw [r2.len, wipe_length, r1.len]
          refine ⟨lo.nb, lo.np, lo.nc, fun j ds ej => ?_⟩
          rcases restore_get hl ej with ⟨h1, h2⟩ | ⟨h1, h2⟩
          · exact absurd h2 (calm_get hc h1)
          · rw [← wipe_out h1]
            exact lo.ns j ds h2
        exact hQ B2 ρ2 (.ref Dl) H2 m2 (r1.back m2 hc r2) ⟨Dl, us, rfl, hu, ru, lo'⟩
  · trivial
theorem good_yes : GoodT K T W L2.tYes tYes := fun g B ρ st σ H r => Res.now (x := true) (fun Q q => q) (Mono.refl _ _) r rfl
end
end Mini

set_option Elab.async false
set_option linter.all false
set_option maxRecDepth 100000
set_option maxHeartbeats 1000000
/-! PySE6: statements, defs. -/
namespace Mini
open PySem PySem.Spec PyProof.Rows L2
section
variable (K : PySem.W.Frag) (T : XT) (W : WX) (g : Gx)
/-- a statement's end o, told of its reading G -/
def EndS (B : Hp) (ρ : List Addr) (D : Ends) (o : O) (G : Prop) : Prop :=
  match o with
  | .nx st' => (∀ B' ρ' σ' H', Mono B ρ B' ρ' → Rel K g B' ρ' st' σ' H' → D.nx σ' H') → G
  | .bk st' => (∀ B' ρ' σ' H', Mono B ρ B' ρ' → Rel K g B' ρ' st' σ' H' → D.bk σ' H') → G
  | .ct st' => (∀ B' ρ' σ' H', Mono B ρ B' ρ' → Rel K g B' ρ' st' σ' H' → D.ct σ' H') → G
  | .rt v st' => (∀ B' ρ' σ' x H', Mono B ρ B' ρ' → Rel K g B' ρ' st' σ' H' → OutR K g B' ρ' st' σ' H' x v → D.rt x H') → G
  | .ex xc st' => (∀ B' ρ' σ' cls d H', Mono B ρ B' ρ' → Rel K g B' ρ' st' σ' H' → XcR K T B' ρ' H' xc cls d → W cls d σ' H') → G
  | .no => True
end
/-- what is wanted behind o -/
def Want (K : PySem.W.Frag) (T : XT) (W : WX) (g : Gx) (B : Hp) (ρ : List Addr) (D : Ends) (o : O) : Prop :=
  match o with
  | .nx st' => ∀ B' ρ' σ' H', Mono B ρ B' ρ' → Rel K g B' ρ' st' σ' H' → D.nx σ' H'
  | .bk st' => ∀ B' ρ' σ' H', Mono B ρ B' ρ' → Rel K g B' ρ' st' σ' H' → D.bk σ' H'
  | .ct st' => ∀ B' ρ' σ' H', Mono B ρ B' ρ' → Rel K g B' ρ' st' σ' H' → D.ct σ' H'
  | .rt v st' => ∀ B' ρ' σ' x H', Mono B ρ B' ρ' → Rel K g B' ρ' st' σ' H' → OutR K g B' ρ' st' σ' H' x v → D.rt x H'
  | .ex xc st' => ∀ B' ρ' σ' cls d H', Mono B ρ B' ρ' → Rel K g B' ρ' st' σ' H' → XcR K T B' ρ' H' xc cls d → W cls d σ' H'
  | .no => False
section
variable {K : PySem.W.Frag} {T : XT} {W : WX} {g : Gx} {B B' : Hp} {ρ ρ' : List Addr} {σ : L2.St} {D : Ends} {o : O} {G : Prop}
theorem EndS.of (h : Want K T W g B ρ D o → G) : EndS K T W g B ρ D o G := by
  cases o with
  | no => trivial
  | nx s => exact h
  | bk s => exact h
  | ct s => exact h
  | rt v s => exact h
  | ex x s => exact h
theorem EndS.to (h : EndS K T W g B ρ D o G) (w : Want K T W g B ρ D o) : G := by
  cases o with
  | no => exact w.elim
  | nx s => exact h w
  | bk s => exact h w
  | ct s => exact h w
  | rt v s => exact h w
  | ex x s => exact h w
theorem Want.up (w : Want K T W g B ρ D o) (m : Mono B ρ B' ρ') : Want K T W g B' ρ' D o := by
  cases o with
  | no => exact w
  | nx s => exact fun B2 ρ2 σ' H' m2 r => w B2 ρ2 σ' H' (m.trans m2) r
  | bk s => exact fun B2 ρ2 σ' H' m2 r => w B2 ρ2 σ' H' (m.trans m2) r
  | ct s => exact fun B2 ρ2 σ' H' m2 r => w B2 ρ2 σ' H' (m.trans m2) r
  | rt v s => exact fun B2 ρ2 σ' x H' m2 r => w B2 ρ2 σ' x H' (m.trans m2) r
  | ex x s => exact fun B2 ρ2 σ' cls d H' m2 r => w B2 ρ2 σ' cls d H' (m.trans m2) r
theorem EndS.bind {α β : Type} {U : (β → Hp → Prop) → Prop} {Oo : α → Hp → List Addr → St → Hp → β → Prop} {r : R α} {U2 : β → Hp → Prop} {f : α → St → O}
    (h : Res K T W g B ρ σ U Oo r) (h2 : ∀ a st' B' ρ' x H', r = .ok a st' → Mono B ρ B' ρ' → Rel K g B' ρ' st' σ H' → Oo a B' ρ' st' H' x → EndS K T W g B' ρ' D (f a st') (U2 x H')) :
    EndS K T W g B ρ D (r.thenS f) (U fun x H' => U2 x H') := by
  cases r with
  | no => trivial
  | ex xc st' => exact fun w => h _ fun B' ρ' cls d H' m r' x => w B' ρ' σ cls d H' m r' x
  | ok a st' =>
    show EndS K T W g B ρ D (f a st') _
    exact EndS.of fun w => h _ fun B' ρ' x H' m r' o => (h2 a st' B' ρ' x H' rfl m r' o).to (w.up m)
end
def GoodS (K : PySem.W.Frag) (T : XT) (W : WX) (t : TS) (s : EvS) : Prop := ∀ g B ρ st σ H D, Rel K g B ρ st σ H → EndS K T W g B ρ D (s st) (t D σ H)
section
variable {K : PySem.W.Frag} {T : XT} {W : WX} {ta tb tc : TE} {a b c : EvE} {va : TA} {l : EvA} {tt tu : TT} {et eu : EvT} {s1 s2 : TS} {e1 e2 : EvS}
theorem good_sno {t : TS} : GoodS K T W t sNo := fun _ _ _ _ _ _ _ _ => trivial
theorem good_pass : GoodS K T W tNext sPass := fun g B ρ st σ H D r w => w B ρ σ H (Mono.refl _ _) r
theorem good_break : GoodS K T W tBreak sBreak := fun g B ρ st σ H D r w => w B ρ σ H (Mono.refl _ _) r
theorem good_cont : GoodS K T W tCont sCont := fun g B ρ st σ H D r w => w B ρ σ H (Mono.refl _ _) r
theorem good_seq (h1 : GoodS K T W s1 e1) (h2 : GoodS K T W s2 e2) : GoodS K T W (tSeq s1 s2) (sSeq e1 e2) := by
  intro g B ρ st σ H D rel
  have z := h1 g B ρ st σ H { D with nx := s2 D } rel
  unfold sSeq tSeq
  refine EndS.of fun w => z.to ?_
  cases e : e1 st with
  | no => rw [e] at w; exact w.elim
  | nx st1 =>
    rw [e] at w
    exact fun B' ρ' σ' H' m r' => (h2 g B' ρ' st1 σ' H' D r').to (Want.up (o := e2 st1) w m)
  | bk st1 => rw [e] at w; exact w
  | ct st1 => rw [e] at w; exact w
  | rt v st1 => rw [e] at w; exact w
  | ex x st1 => rw [e] at w; exact w
theorem good_set {i : Nat} (ha : GoodE K T W ta a) : GoodS K T W (tAsg ta (gName i)) (sSet i a) := by
  intro g B ρ st σ H D rel
  unfold sSet tAsg
  refine EndS.bind (U := ta σ H) (U2 := fun x H1 => gName i x σ H1 D.nx) (ha g B ρ st σ H rel) fun v st1 B1 ρ1 x H1 _ m1 r1 o1 => ?_
  split
  · rename_i hi
    exact fun w => w B1 ρ1 _ H1 (Mono.refl _ _) (r1.setSlot hi o1)
  · trivial
theorem good_get {tg : TG} {gv : EvG} {vs : List Nat} (hg : GoodG K tg gv vs) (ha : GoodE K T W ta a) : GoodS K T W (tAsg ta tg) (sGet gv a) := by
  intro g B ρ st σ H D rel
  unfold sGet tAsg
  refine EndS.bind (U := ta σ H) (U2 := fun x H1 => tg x σ H1 D.nx) (ha.share rel) fun v st1 B1 ρ1 x H1 _ m1 r1 o1 => ?_
  cases e : gv v.d st1 with
  | none => trivial
  | some st2 => exact fun w => hg g B1 ρ1 st1 σ H1 x _ st2 r1 o1 e _ fun σ' r' _ => w B1 ρ1 σ' H1 (Mono.refl _ _) r'
theorem good_ret (ha : GoodE K T W ta a) : GoodS K T W (tRet ta) (sRet a) := by
  intro g B ρ st σ H D rel
  unfold sRet tRet
  refine EndS.bind (U := ta σ H) (U2 := fun x H1 => D.rt x H1) (ha g B ρ st σ H rel) fun v st1 B1 ρ1 x H1 _ m1 r1 o1 => ?_
  exact fun w => w B1 ρ1 σ x H1 (Mono.refl _ _) r1 o1
theorem good_own {i : Nat} : GoodE K T W (tVar i) (eOwn i) := by
  intro g B ρ st σ H rel
  unfold eOwn
  split
  · rename_i ds e
    obtain ⟨p, vs, h1, h2, h3⟩ := rel.ownH e
    exact Res.now (x := .ref p) (fun Q q => ⟨_, h1, q⟩) (Mono.refl _ _) rel.forget ⟨p, vs, rfl, h2, h3, rel.takeOut e h1⟩
  · rename_i d e
    obtain ⟨x, h1, h2⟩ := rel.slot i _ e
    exact Res.now (x := x) (fun Q q => ⟨x, h1, q⟩) (Mono.refl _ _) rel h2
  · trivial
theorem good_retN : GoodS K T W tRetN sRetN := fun g B ρ st σ H D r w => w B ρ σ .non H (Mono.refl _ _) r .non
theorem good_sif (ht : GoodT K T W tt et) (h1 : GoodS K T W s1 e1) (h2 : GoodS K T W s2 e2) : GoodS K T W (tIfS tt s1 s2) (sIf et e1 e2) := by
  intro g B ρ st σ H D rel
  unfold sIf tIfS
  refine EndS.bind (U := tt σ H) (U2 := fun b H1 => if b = true then s1 D σ H1 else s2 D σ H1) (ht g B ρ st σ H rel) fun v st1 B1 ρ1 x H1 _ m1 r1 o1 => ?_
  obtain rfl : x = v := o1
  cases x with
  | true => exact h1 g B1 ρ1 st1 σ H1 D r1
  | false => exact h2 g B1 ρ1 st1 σ H1 D r1
theorem good_drop (ha : GoodE K T W ta a) : GoodS K T W (tDrop ta) (sDrop a) := by
  intro g B ρ st σ H D rel
  unfold sDrop tDrop
  refine EndS.bind (U := ta σ H) (U2 := fun _ H1 => D.nx σ H1) (ha g B ρ st σ H rel) fun v st1 B1 ρ1 x H1 _ m1 r1 o1 => ?_
  exact fun w => w B1 ρ1 σ H1 (Mono.refl _ _) r1
theorem good_app {i : Nat} (ha : GoodE K T W ta a) : GoodS K T W (tDrop (tBM K "list" rAppend (tVar i) (tCons ta tNil))) (sApp i a) := by
  intro g B ρ st σ H D rel
  unfold sApp tDrop tBM
  split
  · rename_i xs0 e0
    obtain ⟨p, vs0, h1, h2, h3⟩ := rel.ownH e0
    have z : EndS K T W g B ρ D ((a st).thenS fun v s1 => (match s1.env[i]? with
      | some (some (.ow xs)) => if xs.length < many then O.nx { s1 with env := s1.env.set i (some (.ow (xs ++ [v.d]))) } else .no
      | _ => .no)) (ta σ H fun y H2 => rAppend (.ref p) [y] H2 fun _ H3 => D.nx σ H3) := by
      refine EndS.bind (U := ta σ H) (U2 := fun y H2 => rAppend (.ref p) [y] H2 fun _ H3 => D.nx σ H3) (ha.share rel) fun v st1 B1 ρ1 x H1 _ m1 r1 o1 => ?_
      split
      · rename_i xs e4
        obtain ⟨p', vs, h4, h5, h6⟩ := r1.ownH e4
        rw [h1] at h4
        cases h4
        split
        · rename_i hz
          have lo := r1.takeOut e4 h1
          have hi : i < st1.env.length := (List.getElem?_eq_some_iff.mp e4).1
          have r3 := ((r1.forget (i := i)).put (o := .lst (vs ++ [x])) lo).backIn hi h1 lo upd_same (h6.append (Reps.one o1))
          exact fun w => ⟨_, _, _, rfl, rfl, h5, many_lt (by rw [h6.length]; exact hz), w B1 ρ1 σ _ (Mono.refl _ _) r3⟩
        · trivial
      · trivial
    exact EndS.of fun w => ⟨_, h1, .inl ⟨rfl, _, SqL.of h2⟩, z.to w⟩
  · trivial
theorem good_appC (ha : GoodE K T W ta a) (hb : GoodE K T W tb b) : GoodS K T W (tDrop (tBM K "list" rAppend ta (tCons tb tNil))) (sAppC a b) := by
  intro g B ρ st σ H D rel
  unfold sAppC tDrop tBM
  refine EndS.bind (U := ta σ H) (U2 := fun x H1 => tyV K "list" x H1 ∧ tCons tb tNil σ H1 fun xs H2 => rAppend x xs H2 fun _ H3 => D.nx σ H3) (ha.share rel) fun v st1 B1 ρ1 x H1 _ m1 r1 o1 => ?_
  have o1 : Rep K B1 ρ1 x v.d := o1
  split
  · rename_i n e1
    rw [e1] at o1
    cases o1 with
    | @cell ad _ hn =>
      split
      · rename_i xs0 hc0
        obtain ⟨u, hu, vs0, e3, hp0⟩ := r1.cell n _ _ hc0 hn
        subst e3
        have z : EndS K T W g B1 ρ1 D ((b st1).thenS fun v s2 => (match s2.om[n]? with
          | some (.lst xs) => if xs.length < many then O.nx { s2 with om := s2.om.set n (.lst (xs ++ [v.d])) } else .no
          | _ => .no)) (tb σ H1 fun y H2 => rAppend (.ref ad) [y] H2 fun _ H3 => D.nx σ H3) := by
          refine EndS.bind (U := tb σ H1) (U2 := fun y H2 => rAppend (.ref ad) [y] H2 fun _ H3 => D.nx σ H3) (hb.share r1) fun w st2 B2 ρ2 y H2 _ m2 r2 o2 => ?_
          split
          · rename_i xs hc
            have hn2 := m2.r _ _ hn
            obtain ⟨u2, hu2, vs, e5, hp⟩ := r2.cell n _ _ hc hn2
            subst e5
            split
            · rename_i hz
              have r3 := r2.setCell (c := .lst (xs ++ [w.d])) (o := .lst (vs ++ [y])) hn2 ⟨_, rfl, hp.append (Reps.one o2)⟩
              exact fun w => ⟨_, _, _, rfl, rfl, hu2, many_lt (by rw [hp.length]; exact hz), w B2 ρ2 σ _ (Mono.refl _ _) r3⟩
            · trivial
          · trivial
        exact EndS.of fun w => ⟨.inl ⟨rfl, _, SqL.of hu⟩, z.to w⟩
      · trivial
  · trivial
theorem kv_len {B : Hp} {ρ : List Addr} {kws : List (Key × V)} {kvs : List (Ky × D)} (h : Paired (fun (p : Key × V) (q : Ky × D) => p.1 = q.1 ∧ Rep K B ρ p.2 q.2) kws kvs) : kws.length = kvs.length := Paired.length h
theorem good_dput (ha : GoodE K T W ta a) (hb : GoodE K T W tb b) (hc : GoodE K T W tc c) : GoodS K T W (L2.sDPut ta tb tc) (sDPut a b c) := by
  intro g B ρ st σ H D rel
  unfold sDPut L2.sDPut
  refine EndS.bind (U := tc σ H) (U2 := fun v H1 => ta σ H1 fun x H2 => tb σ H2 fun y H3 => ∃ a H4, x = V.ref a ∧ DPut H3 a y v H4 ∧ D.nx σ H4) (hc.share rel) fun v st1 B1 ρ1 xv H1 _ m1 r1 o1 => ?_
  refine EndS.bind (U := ta σ H1) (U2 := fun x H2 => tb σ H2 fun y H3 => ∃ a H4, x = V.ref a ∧ DPut H3 a y xv H4 ∧ D.nx σ H4) (ha.share r1) fun w st2 B2 ρ2 xd H2 _ m2 r2 o2 => ?_
  refine EndS.bind (U := tb σ H2) (U2 := fun y H3 => ∃ a H4, xd = V.ref a ∧ DPut H3 a y xv H4 ∧ D.nx σ H4) (hb.share r2) fun k st3 B3 ρ3 xk H3 _ m3 r3 o3 => ?_
  have o2 : Rep K B3 ρ3 xd w.d := o2.up m3
  have o1 : Rep K B3 ρ3 xv v.d := (Rep.up o1 m2).up m3
  split
  · rename_i n ky e1 e2
    rw [e1] at o2
    cases o2 with
    | @cell ad _ hn =>
      split
      · rename_i kvs hcl
        obtain ⟨u, hu, kws, e5, hp⟩ := r3.cell n _ _ hcl hn
        subst e5
        split
        · rename_i hz
          have r4 := r3.setCell (c := .dK (kvPut kvs ky v.d)) (o := .dK (putK kws ky xv)) hn ⟨_, rfl, kv_put o1 hp⟩
          refine fun w => ⟨_, _, rfl, ?_, w B3 ρ3 σ _ (Mono.refl _ _) r4⟩
          rw [Mini.D.ky_rep o3 e2]
          exact DPut.k hu (many_lt (by rw [kv_len hp]; exact hz))
        · trivial
      · trivial
  · trivial

/-! ### a, b = x, y -/
/-- several values, apart -/
def OutRs (K : PySem.W.Frag) (g : Gx) (B : Hp) (ρ : List Addr) (st : St) (σ : L2.St) (H : Hp) : List V → List Vl → Prop
  | [], [] => True
  | x :: xs, v :: vs => OutR K g B ρ st σ H x v ∧ OutRs K g B ρ st σ H xs vs ∧ ∀ (k : Nat) (ds es : List D) (p : Addr), v = .ow ds → x = .ref p → vs[k]? = some (.ow es) → xs[k]? ≠ some (.ref p)
  | _, _ => False
theorem OutRs.get {g : Gx} {B : Hp} {ρ : List Addr} {st : St} {σ : L2.St} {H : Hp} : ∀ {xs : List V} {vs : List Vl} {k : Nat} {v : Vl}, OutRs K g B ρ st σ H xs vs → vs[k]? = some v → ∃ x, xs[k]? = some x ∧ OutR K g B ρ st σ H x v
  | [], [], _, _, _, e => by simp at e
  | x :: xs, v :: vs, 0, _, h, e => by
    have e' := Option.some.inj e
    exact ⟨x, rfl, e' ▸ h.1⟩
  | x :: xs, v :: vs, k + 1, w, h, e => by
    obtain ⟨y, h1, h2⟩ := OutRs.get (k := k) (v := w) h.2.1 (by simpa using e)
    exact ⟨y, by simpa using h1, h2⟩
  | [], _ :: _, _, _, h, _ => h.elim
  | _ :: _, [], _, _, h, _ => h.elim
theorem OutRs.unguard {g : Gx} {B : Hp} {ρ : List Addr} {st : St} {σ : L2.St} {H : Hp} {p : Addr} {o : HO} (hg : g.P p = none) : ∀ {xs : List V} {vs : List Vl}, OutRs K (g.guard p o) B ρ st σ H xs vs →
    OutRs K g B ρ st σ H xs vs ∧ ∀ (k : Nat) (es : List D), vs[k]? = some (.ow es) → xs[k]? ≠ some (.ref p)
  | [], [], _ => ⟨trivial, fun k es e => by simp at e⟩
  | x :: xs, v :: vs, h => by
    obtain ⟨h1, h2, h3⟩ := h
    obtain ⟨i1, i2⟩ := OutRs.unguard hg h2
    have hP : ∀ q, (g.guard p o).P q = none → g.P q = none ∧ q ≠ p := fun q e => by
      have e' : upd g.P p o q = none := e
      by_cases z : q = p
      · rw [z, upd_same] at e'
        cases e'
      · rw [upd_ne z] at e'
        exact ⟨e', z⟩
    have o1 : OutR K g B ρ st σ H x v ∧ ∀ es, v = .ow es → x ≠ .ref p := by
      cases v with
      | sh d => exact ⟨h1, fun es e => by cases e⟩
      | ow ds =>
        obtain ⟨q, us, a1, a2, a3, l⟩ := h1
        obtain ⟨z1, z2⟩ := hP q l.np
        refine ⟨⟨q, us, a1, a2, a3, l.nb, z1, l.nc, l.ns⟩, fun es e z => ?_⟩
        rw [a1] at z
        cases z
        exact z2 rfl
    refine ⟨⟨o1.1, i1, h3⟩, fun k es e => ?_⟩
    cases k with
    | zero =>
      have e' := Option.some.inj e
      exact fun z => o1.2 es e' (Option.some.inj z)
    | succ k => exact i2 k es (by simpa using e)
  | [], _ :: _, h => h.elim
  | _ :: _, [], h => h.elim
def GoodVs (K : PySem.W.Frag) (T : XT) (W : WX) (t : TA) (es : List EvE) : Prop := ∀ g B ρ st σ H, Rel K g B ρ st σ H → Res K T W g B ρ σ (t σ H) (fun vs B' ρ' st' H' xs => OutRs K g B' ρ' st' σ H' xs vs) (eVals es st)
theorem good_vnil : GoodVs K T W tNil [] := fun g B ρ st σ H r => Res.now (x := []) (fun Q q => q) (Mono.refl _ _) r trivial
theorem good_vcons {es : List EvE} (ha : GoodE K T W ta a) (hl : GoodVs K T W va es) : GoodVs K T W (tCons ta va) (a :: es) := by
  intro g B ρ st σ H rel
  unfold tCons
  show Res K T W g B ρ σ (fun Q => ta σ H fun x H1 => va σ H1 fun xs H2 => Q (x :: xs) H2) _ ((a st).bind fun v s1 => (eVals es s1).bind fun vs s2 => .ok (v :: vs) s2)
  refine Res.bind (U := ta σ H) (U2 := fun x H1 Q => va σ H1 fun xs H2 => Q (x :: xs) H2) (ha g B ρ st σ H rel) fun v st1 B1 ρ1 x H1 _ m1 r1 o1 => ?_
  cases v with
  | sh d =>
    have o1 : Rep K B1 ρ1 x d := o1
    refine Res.bind (U := va σ H1) (U2 := fun xs H2 Q => Q (x :: xs) H2) (hl g B1 ρ1 st1 σ H1 r1) fun vs st2 B2 ρ2 xs H2 _ m2 r2 o2 => ?_
    exact Res.now (x := x :: xs) (fun Q q => q) (Mono.refl _ _) r2 ⟨o1.up m2, o2, fun k ds es p e => by cases e⟩
  | ow ds =>
    obtain ⟨p, us, rfl, h2, h3, lo⟩ := o1
    have z := hl (g.guard p (.lst us)) B1 ρ1 st1 σ H1 (r1.guard lo h2)
    cases e : eVals es st1 with
    | no => trivial
    | ex xc st2 =>
      rw [e] at z
      refine fun Q hQ => z _ fun B' ρ' cls d H' m r o => ?_
      exact hQ B' ρ' cls d H' m (r.unguard (lo.no0 r1) lo.np).1 o
    | ok vs st2 =>
      rw [e] at z
      refine fun Q hQ => z _ fun B' ρ' xs H' m r o => ?_
      obtain ⟨r', h4, lo'⟩ := r.unguard (lo.no0 r1) lo.np
      obtain ⟨o', ap⟩ := OutRs.unguard lo.np o
      refine hQ B' ρ' (.ref p :: xs) H' m r' ⟨⟨p, us, rfl, h4, h3.up m, lo'⟩, o', fun k ds' es' q e1 e2 e3 => ?_⟩
      cases e2
      exact ap k es' e3
def setAllV : L2.St → List Nat → List V → L2.St
  | σ, i :: is, x :: xs => setAllV (σ.set i (some x)) is xs
  | σ, _, _ => σ
theorem Rel.setAll {g : Gx} {B : Hp} {ρ : List Addr} {H : Hp} : ∀ {is : List Nat} {xs : List V} {vs : List Vl} {st : St} {σ : L2.St}, Rel K g B ρ st σ H → OutRs K g B ρ st σ H xs vs → (∀ i ∈ is, i < st.env.length) → Rel K g B ρ { st with env := setAll st.env is vs } (setAllV σ is xs) H
  | [], [], [], st, σ, r, _, _ => r
  | [], _ :: _, _ :: _, st, σ, r, _, _ => r
  | i :: is, [], [], st, σ, r, _, _ => r
  | i :: is, x :: xs, v :: vs, st, σ, r, o, hi => by
    have r1 := r.setSlot (i := i) (v := v) (x := x) (hi i (by simp)) o.1
    have o2 : OutRs K g B ρ { st with env := st.env.set i (some v) } (σ.set i (some x)) H xs vs := by
      have key : ∀ (ys : List V) (ws : List Vl), OutRs K g B ρ st σ H ys ws → (∀ (k : Nat) (ds es : List D) (p : Addr), v = .ow ds → x = .ref p → ws[k]? = some (.ow es) → ys[k]? ≠ some (.ref p)) → OutRs K g B ρ { st with env := st.env.set i (some v) } (σ.set i (some x)) H ys ws := by
        intro ys ws
        induction ys generalizing ws with
        | nil =>
          intro h _
          cases ws with
          | nil => trivial
          | cons w ws => exact h.elim
        | cons y ys ih =>
          intro h ap
          cases ws with
          | nil => exact h.elim
          | cons w ws =>
            obtain ⟨h1, h2, h3⟩ := h
            refine ⟨?_, ih ws h2 fun k ds es p e1 e2 e3 => by simpa using ap (k + 1) ds es p e1 e2 (by simpa using e3), h3⟩
            cases w with
            | sh d => exact h1
            | ow ds =>
              obtain ⟨q, us, a1, a2, a3, l⟩ := h1
              refine ⟨q, us, a1, a2, a3, l.nb, l.np, l.nc, fun j es ej ej2 => ?_⟩
              have ej' : (st.env.set i (some v))[j]? = some (some (Vl.ow es)) := ej
              rw [getElem?_set'] at ej' ej2
              by_cases hj : i = j
              · rw [if_pos hj] at ej' ej2
                split at ej'
                · split at ej2
                  · have e1 : v = .ow es := Option.some.inj (Option.some.inj ej')
                    have e2 : x = .ref q := Option.some.inj (Option.some.inj ej2)
                    exact ap 0 es ds q e1 e2 rfl (by rw [a1]; rfl)
                  · cases ej2
                · cases ej'
              · rw [if_neg hj] at ej' ej2
                exact l.ns j es ej' ej2
      exact key xs vs o.2.1 o.2.2
    exact Rel.setAll (st := { st with env := st.env.set i (some v) }) (σ := σ.set i (some x)) (is := is) (xs := xs) (vs := vs) r1 o2 fun j hj => by
      show j < (st.env.set i (some v)).length
      rw [List.length_set]
      exact hi j (by simp [hj])
  | [], [], _ :: _, st, σ, r, o, _ => o.elim
  | [], _ :: _, [], st, σ, r, o, _ => o.elim
  | _ :: _, [], _ :: _, st, σ, r, o, _ => o.elim
  | _ :: _, _ :: _, [], st, σ, r, o, _ => o.elim
theorem OutRs.len {g : Gx} {B : Hp} {ρ : List Addr} {st : St} {σ : L2.St} {H : Hp} : ∀ {xs : List V} {vs : List Vl}, OutRs K g B ρ st σ H xs vs → xs.length = vs.length
  | [], [], _ => rfl
  | x :: xs, v :: vs, h => by rw [List.length_cons, List.length_cons, OutRs.len h.2.1]
  | [], _ :: _, h => h.elim
  | _ :: _, [], h => h.elim
theorem vals_len : ∀ {es : List EvE} {st st' : St} {vs : List Vl}, eVals es st = .ok vs st' → vs.length = es.length
  | [], st, st', vs, h => by cases h; rfl
  | e :: es, st, st', vs, h => by
    have h' : ((e st).bind fun v s1 => (eVals es s1).bind fun vs s2 => R.ok (v :: vs) s2) = .ok vs st' := h
    cases e1 : e st with
    | no => rw [e1] at h'; cases h'
    | ex x s => rw [e1] at h'; cases h'
    | ok v s1 =>
      rw [e1, R.bind_ok] at h'
      cases e2 : eVals es s1 with
      | no => rw [e2] at h'; cases h'
      | ex x s => rw [e2] at h'; cases h'
      | ok ws s2 =>
        rw [e2, R.bind_ok] at h'
        cases h'
        rw [List.length_cons, List.length_cons, vals_len e2]
theorem good_par {is : List Nat} {es : List EvE} {Q' : Ends → L2.St → List V → Hp → Prop} (ht : ∀ D σ xs H1, xs.length = es.length → D.nx (setAllV σ is xs) H1 → Q' D σ xs H1) (hl : GoodVs K T W va es) : GoodS K T W (fun D σ H => va σ H (Q' D σ)) (sPar is es) := by
  intro g B ρ st σ H D rel
  unfold sPar
  refine EndS.bind (U := va σ H) (U2 := fun xs H1 => Q' D σ xs H1) (hl g B ρ st σ H rel) fun vs st1 B1 ρ1 xs H1 e m1 r1 o1 => ?_
  split
  · rename_i hz
    rw [List.all_eq_true] at hz
    exact fun w => ht D σ xs H1 (by rw [o1.len, vals_len e]) (w B1 ρ1 _ H1 (Mono.refl _ _) (r1.setAll o1 fun i hi => of_decide_eq_true (hz i hi)))
  · trivial
theorem good_par2 {i j : Nat} (ha : GoodE K T W ta a) (hb : GoodE K T W tb b) : GoodS K T W (tPar i j (tCons ta (tCons tb tNil))) (sPar [i, j] [a, b]) :=
  good_par (va := tCons ta (tCons tb tNil)) (Q' := fun D σ vs H1 => ∃ v w, vs = [v, w] ∧ D.nx ((σ.set i (some v)).set j (some w)) H1) (fun D σ xs H1 hl h => match xs, hl with | [x, y], _ => ⟨x, y, rfl, h⟩) (good_vcons ha (good_vcons hb good_vnil))
theorem good_par3 {i j k : Nat} (ha : GoodE K T W ta a) (hb : GoodE K T W tb b) (hc : GoodE K T W tc c) : GoodS K T W (tPar3 i j k (tCons ta (tCons tb (tCons tc tNil)))) (sPar [i, j, k] [a, b, c]) :=
  good_par (va := tCons ta (tCons tb (tCons tc tNil))) (Q' := fun D σ vs H1 => ∃ u v w, vs = [u, v, w] ∧ D.nx (((σ.set i (some u)).set j (some v)).set k (some w)) H1) (fun D σ xs H1 hl h => match xs, hl with | [x, y, z], _ => ⟨x, y, z, rfl, h⟩) (good_vcons ha (good_vcons hb (good_vcons hc good_vnil)))

/-! ### loops -/
theorem good_for {wi : TI} {i : EvI} {tg : TG} {gv : EvG} {vs : List Nat} {tb : TS} {eb : EvS} (hi : GoodI K T W wi i) (hg : GoodG K tg gv vs) (hb : GoodS K T W tb eb) : GoodS K T W (tFor wi tg tb) (sFor i gv eb) := by
  intro g B ρ st σ H D rel
  unfold sFor tFor
  refine EndS.bind (U := wi σ H) (hi g B ρ st σ H rel) fun xs s1 B1 ρ1 J H1 _ m1 r1 itr => ?_
  refine EndS.of fun w => ?_
  generalize hr : forGo gv eb xs s1 = rr at w
  refine ⟨fun k m σ' H' => m = xs.length - k ∧ k ≤ xs.length ∧ ∃ B2 ρ2 st2, Mono B1 ρ1 B2 ρ2 ∧ Rel K g B2 ρ2 st2 σ' H' ∧ forGo gv eb (xs.drop k) st2 = rr, ⟨xs.length, by simp, Nat.zero_le _, B1, ρ1, s1, Mono.refl _ _, r1, hr⟩, ?_⟩
  rintro k m σ2 H2 ⟨rfl, hk, B2, ρ2, st2, m2, r2, go⟩
  by_cases hlt : k < xs.length
  · have hx : xs[k]? = some xs[k] := List.getElem?_eq_getElem hlt
    rw [List.drop_eq_getElem_cons hlt] at go
    unfold forGo at go
    obtain ⟨jg, jy⟩ := (itr g k B2 ρ2 st2 σ2 H2 m2 r2).1 _ hx
    refine .inr ⟨jg, fun σ' H' => ∃ B3 ρ3 st3, Mono B1 ρ1 B3 ρ3 ∧ Rel K g B3 ρ3 st3 σ' H' ∧ forGo gv eb (xs.drop (k + 1)) st3 = rr, fun σ' H' nx => ⟨xs.length - (k + 1), by omega, rfl, hlt, nx⟩, fun x H' hy => ?_⟩
    obtain ⟨B3, s3, r3, rx⟩ := jy x H' hy
    have m3 : Mono B1 ρ1 B3 ρ2 := ⟨m2.b.trans s3, m2.r⟩
    cases eg : gv xs[k] st2 with
    | none =>
      rw [eg] at go
      rw [← go] at w
      exact w.elim
    | some s4 =>
      rw [eg] at go
      refine hg g B3 ρ2 st2 σ2 H' x _ s4 r3 rx eg _ fun σ4 r4 _ => ?_
      refine (hb g B3 ρ2 s4 σ4 H' _ r4).to ?_
      have go : (match eb s4 with | .nx s2 => forGo gv eb (xs.drop (k + 1)) s2 | .ct s2 => forGo gv eb (xs.drop (k + 1)) s2 | .bk s2 => .nx s2 | .rt v s2 => .rt v s2 | .ex x s2 => .ex x s2 | .no => .no) = rr := go
      rw [← go] at w
      cases e : eb s4 with
      | no => rw [e] at w; exact w.elim
      | nx s5 =>
        rw [e] at go
        exact fun B' ρ' σ' H' m r => ⟨B', ρ', s5, m3.trans m, r, go⟩
      | ct s5 =>
        rw [e] at go
        exact fun B' ρ' σ' H' m r => ⟨B', ρ', s5, m3.trans m, r, go⟩
      | bk s5 =>
        rw [e] at w
        exact fun B' ρ' σ' H' m r => w B' ρ' σ' H' (m3.trans m) r
      | rt v s5 =>
        rw [e] at w
        exact fun B' ρ' σ' y H' m r => w B' ρ' σ' y H' (m3.trans m) r
      | ex x s5 =>
        rw [e] at w
        exact fun B' ρ' σ' cls d H' m r => w B' ρ' σ' cls d H' (m3.trans m) r
  · have e : k = xs.length := by omega
    refine .inl ⟨(itr g k B2 ρ2 st2 _ H2 m2 r2).2 (by omega), ?_⟩
    rw [e, List.drop_length] at go
    rw [← go] at w
    exact w B2 ρ2 σ2 H2 m2 r2
theorem good_while {n : Nat} {tb : TS} {eb : EvS} (ht : GoodT K T W tt et) (hb : GoodS K T W tb eb) : GoodS K T W (tWhile tt tb) (sWhile n et eb) := by
  intro g B ρ st σ H D rel
  unfold sWhile tWhile
  refine EndS.of fun w => ?_
  generalize hr : whileGo et eb n st = rr at w
  refine ⟨fun m σ' H' => ∃ B2 ρ2 st2, Mono B ρ B2 ρ2 ∧ Rel K g B2 ρ2 st2 σ' H' ∧ whileGo et eb m st2 = rr, ⟨n, B, ρ, st, Mono.refl _ _, rel, hr⟩, ?_⟩
  rintro m σ2 H2 ⟨B2, ρ2, st2, m2, r2, go⟩
  cases m with
  | zero =>
    rw [← go] at w
    exact w.elim
  | succ m =>
    have go : ((et st2).thenS fun c s1 => if c = true then (match eb s1 with | .nx s2 => whileGo et eb m s2 | .ct s2 => whileGo et eb m s2 | .bk s2 => .nx s2 | .rt v s2 => .rt v s2 | .ex x s2 => .ex x s2 | .no => .no) else .nx s1) = rr := go
    have zt := ht g B2 ρ2 st2 σ2 H2 r2
    cases e1 : et st2 with
    | no => rw [e1] at go; rw [← go] at w; exact w.elim
    | ex x s =>
      rw [e1] at go zt
      rw [← go] at w
      exact zt _ fun B' ρ' cls d H' m r o => w B' ρ' σ2 cls d H' (m2.trans m) r o
    | ok b s4 =>
      rw [e1] at go zt
      rw [R.thenS_ok] at go
      refine zt _ fun B3 ρ3 b' H3 m3 r3 o3 => ?_
      obtain rfl : b' = b := o3
      cases b' with
      | false =>
        rw [if_neg (by decide)] at go ⊢
        rw [← go] at w
        exact w B3 ρ3 σ2 H3 (m2.trans m3) r3
      | true =>
        rw [if_pos rfl] at go ⊢
        refine ⟨fun σ' H' => ∃ B4 ρ4 st4, Mono B ρ B4 ρ4 ∧ Rel K g B4 ρ4 st4 σ' H' ∧ whileGo et eb m st4 = rr, fun σ' H' h => ⟨m, Nat.lt_succ_self _, h⟩, ?_⟩
        refine (hb g B3 ρ3 s4 σ2 H3 _ r3).to ?_
        rw [← go] at w
        have m3 := m2.trans m3
        cases e : eb s4 with
        | no => rw [e] at w; exact w.elim
        | nx s5 =>
          rw [e] at go
          exact fun B' ρ' σ' H' m r => ⟨B', ρ', s5, m3.trans m, r, go⟩
        | ct s5 =>
          rw [e] at go
          exact fun B' ρ' σ' H' m r => ⟨B', ρ', s5, m3.trans m, r, go⟩
        | bk s5 =>
          rw [e] at w
          exact fun B' ρ' σ' H' m r => w B' ρ' σ' H' (m3.trans m) r
        | rt v s5 =>
          rw [e] at w
          exact fun B' ρ' σ' y H' m r => w B' ρ' σ' y H' (m3.trans m) r
        | ex x s5 =>
          rw [e] at w
          exact fun B' ρ' σ' cls d H' m r => w B' ρ' σ' cls d H' (m3.trans m) r
end

/-! ### defs -/
section
variable {P : Program} {w : World} {K : PySem.W.Frag} {mg : Str → Option Value} {base : Heap} {T : XT}
/-- a body that does what eb says keeps the promise -/
theorem body_ok {N : List Str} {vs : List V} {H : Hp} {Q : VK} {E : XK} {n : Nat} {t : TS} {eb : EvS} (h : GoodS K T (fun cls d _ H => E cls d H) t eb) (hsp : spD K T n (runDef N.length eb) vs H Q E) : t { nx := fun _ H' => Q .non H', rt := Q } (start N vs) H := by
  obtain ⟨_, B, ρ, ds, om, r0, rs, hr⟩ := hsp
  have r1 := r0.enter (N := N) rs
  refine (h _ B ρ _ _ H _ r1).to ?_
  unfold runDef at hr
  cases e : eb { env := (ds.map fun d => some (Vl.sh d)) ++ List.replicate (N.length - ds.length) none, om := om } with
  | no => rw [e] at hr; exact hr.elim
  | bk s => rw [e] at hr; exact hr.elim
  | ct s => rw [e] at hr; exact hr.elim
  | nx s =>
    rw [e] at hr
    exact fun B' ρ' σ' H' m r => hr B' ρ' .non H' m r.leave .non
  | rt v s =>
    rw [e] at hr
    exact fun B' ρ' σ' x H' m r o => hr B' ρ' x H' m r.leave o.leave
  | ex x s =>
    rw [e] at hr
    exact fun B' ρ' σ' cls d H' m r o => hr B' ρ' cls d H' m r.leave o
/-- THE RULE of a def -/
theorem def_ok {x qual : Str} {st : Stmt} {f : Addr} {fd : FuncData} {N ps : List Str} {k : Nat} {eb : EvS} (F : Fun K x qual st f fd) (S : FnScope N ps (defScope st))
    (h : ∀ (cdv : Value) (A : Around) (outer : List Env) (s : Shared) (H : Hp) (E : XK), Room k (A.deeper (envOfC qual (defScope st) s.heap.objs.size f cdv)) →
      ∃ t, PSs (cxOf (L2.CX P w) P w K mg base N qual (defScope st) f cdv A outer s H E) (defBody st) t ∧ GoodS K T (fun cls d _ H => E cls d H) t eb) :
    FnOk P w K mg base (L2.CX P w) (k + 1) f fd ps (spD K T ps.length (runDef N.length eb)) :=
  F.okX S (fun vs H Q E h => h.1) fun cdv A outer s H vs Q E hr hsp => by
    obtain ⟨t, h1, h2⟩ := h cdv A outer s H E hr
    exact ⟨t, h1, body_ok h2 hsp⟩
/-- a def given another function that says the same, or more -/
theorem fn_imp {f : Addr} {fd : FuncData} {ps : List Str} {k n : Nat} {F G : Fn} (h : FnOk P w K mg base (L2.CX P w) k f fd ps (spD K T n F)) (e : ∀ ds om, G ds om ≠ .no → F ds om = G ds om) : FnOk P w K mg base (L2.CX P w) k f fd ps (spD K T n G) :=
  h.imp fun vs H Q E z => by
    obtain ⟨z0, B, ρ, ds, om, r0, rs, hr⟩ := z
    refine ⟨z0, B, ρ, ds, om, r0, rs, ?_⟩
    have hn : G ds om ≠ .no := fun q => by rw [q] at hr; exact hr
    rw [e ds om hn]
    exact hr
end
end Mini

set_option Elab.async false
set_option linter.all false
set_option maxRecDepth 100000
set_option maxHeartbeats 1000000
/-! PySE7: the rules as one writes them. -/
namespace Mini
open PySem PySem.Spec PyProof.Rows L2
structure SW (X : Cx) (K : PySem.W.Frag) (T : XT) (W : WX) (e : Expr) (t : TT) (v : EvT) : Prop where
  pe : PW X e t
  good : GoodT K T W t v
structure SI (X : Cx) (K : PySem.W.Frag) (T : XT) (W : WX) (tg e : Expr) (t : TI) (v : EvI) : Prop where
  pe : PI X tg e t
  good : GoodI K T W t v
structure SG (X : Cx) (K : PySem.W.Frag) (e : Expr) (t : TG) (v : EvG) (vs : List Nat) : Prop where
  pe : PG X e t
  good : GoodG K t v vs
structure SGs (X : Cx) (K : PySem.W.Frag) (es : List Expr) (t : TGs) (v : EvGs) (vs : List Nat) (n : Nat) : Prop where
  pe : PGs X es t
  good : GoodGs K t v vs
  len : LenG v n
structure SQ (X : Cx) (K : PySem.W.Frag) (T : XT) (W : WX) (es : List Expr) (t : TT) (v : EvT) : Prop where
  pe : PTs X es t
  good : GoodT K T W t v
structure SS (X : Cx) (K : PySem.W.Frag) (T : XT) (W : WX) (s : Stmt) (t : TS) (v : EvS) : Prop where
  pe : PS X s t
  good : GoodS K T W t v
structure SB (X : Cx) (K : PySem.W.Frag) (T : XT) (W : WX) (s : List Stmt) (t : TS) (v : EvS) : Prop where
  pe : PSs X s t
  good : GoodS K T W t v
structure SVs (X : Cx) (K : PySem.W.Frag) (T : XT) (W : WX) (es : List Expr) (t : TA) (v : List EvE) : Prop where
  pe : PA X es t
  good : GoodVs K T W t v
structure SD (X : Cx) (K : PySem.W.Frag) (T : XT) (W : WX) (pos : Pos) (keys : List (Option Expr)) (values : List Expr) (trs : List (TE × TE)) (ks : List Str) (v : EvA) : Prop where
  pe : PPs X pos keys values trs
  good : GoodP K T W trs ks v
/-- a def that is called -/
structure Def (P : Program) (w : World) (K : PySem.W.Frag) (mg : Str → Option Value) (base : Heap) (T : XT) (k : Nat) (x : Str) (ps : List Str) (F : Fn) : Prop where
  ex : ∃ f fd, FnOk P w K mg base (L2.CX P w) k f fd ps (spD K T ps.length F) ∧ mg x = some (.ref f) ∧ PySem.W.keepIn K (.ref f) = true ∧ (∀ us : List Value, us.length = ps.length → bindArgs fd ⟨us, []⟩ = pure (ps.zip us)) ∧
    ∃ (oc : Value) (od : Option Addr) (osl : Array (Option Value)), K.lookup f = some ⟨oc, od, .func fd, osl⟩
/-- a def as it stands -/
structure TxtD (K : PySem.W.Frag) (mg : Str → Option Value) (x : Str) (st : Stmt) (ps : List Str) : Prop where
  ex : ∃ f fd, Fun K x x st f fd ∧ mg x = some (.ref f) ∧ ∀ us : List Value, us.length = ps.length → bindArgs fd ⟨us, []⟩ = pure (ps.zip us)
theorem Fun.look {K : PySem.W.Frag} {x q : Str} {st : Stmt} {f : Addr} {fd : FuncData} (F : Fun K x q st f fd) : ∃ (oc : Value) (od : Option Addr) (osl : Array (Option Value)), K.lookup f = some ⟨oc, od, .func fd, osl⟩ := by
  obtain ⟨oc, od, kV, doc, pm, an, cdv, ct, osl, _, lk, _⟩ := F.ex
  exact ⟨oc, od, osl, lk⟩
theorem Def.of {P : Program} {w : World} {K : PySem.W.Frag} {mg : Str → Option Value} {base : Heap} {T : XT} {x : Str} {st : Stmt} {N ps : List Str} {k : Nat} {eb : EvS} (D : TxtD K mg x st ps) (S : FnScope N ps (defScope st))
    (h : ∀ (f : Addr) (cdv : Value) (A : Around) (outer : List Env) (s : Shared) (H : Hp) (E : XK), Room k (A.deeper (envOfC x (defScope st) s.heap.objs.size f cdv)) →
      ∃ t, SB (cxOf (L2.CX P w) P w K mg base N x (defScope st) f cdv A outer s H E) K T (fun cls d _ H => E cls d H) (defBody st) t eb) : Def P w K mg base T (k + 1) x ps (runDef N.length eb) := by
  obtain ⟨f, fd, F, hm, hb⟩ := D.ex
  exact ⟨f, fd, def_ok F S fun cdv A outer s H E hr => by
    obtain ⟨t, z⟩ := h f cdv A outer s H E hr
    exact ⟨t, z.pe, z.good⟩, hm, F.kp, hb, Fun.look F⟩
theorem Def.imp {P : Program} {w : World} {K : PySem.W.Frag} {mg : Str → Option Value} {base : Heap} {T : XT} {k : Nat} {x : Str} {ps : List Str} {F G : Fn} (D : Def P w K mg base T k x ps F) (e : ∀ ds om, G ds om ≠ .no → F ds om = G ds om) : Def P w K mg base T k x ps G := by
  obtain ⟨f, fd, h1, h2⟩ := D.ex
  exact ⟨f, fd, fn_imp h1 e, h2⟩
section
variable {X : Cx} {K : PySem.W.Frag} {T : XT} {W : WX} {a b c e : Expr} {es : List Expr} {ta tb tc te : TE} {va vb vc ve : EvE} {t : TA} {l : EvA} {tt tu : TT} {et eu : EvT} {pos p p1 p2 : Pos} {x : Str}
/-! ### expressions -/
theorem s_v (i : Nat) (hN : X.N[i]? = some x := by rfl) (hv : Vis X.env.scope x := by first | exact Or.inl rfl | exact Or.inr (Or.inl rfl) | exact Or.inr (Or.inr rfl)) (hd : (x == ("__debug__" : Str)) = false := by decide)
    (hcd : (x == ("__classdict__" : Str)) = false := by decide) (hK : X.K = K := by rfl) : SE X K T W (.Name x pos) (tVar i) (eVar i) := by
  subst hK
  exact ⟨pe_var hN hv hd hcd, good_var⟩
/-- .. out of its slot -/
theorem s_own (i : Nat) (hN : X.N[i]? = some x := by rfl) (hv : Vis X.env.scope x := by first | exact Or.inl rfl | exact Or.inr (Or.inl rfl) | exact Or.inr (Or.inr rfl)) (hd : (x == ("__debug__" : Str)) = false := by decide)
    (hcd : (x == ("__classdict__" : Str)) = false := by decide) (hK : X.K = K := by rfl) : SE X K T W (.Name x pos) (tVar i) (eOwn i) := by
  subst hK
  exact ⟨pe_var hN hv hd hcd, good_own⟩
theorem s_int {i : Int} {j} (hK : X.K = K := by rfl) : SE X K T W (.Constant (.int i) j pos) (tC (.int i)) (eInt i) := by
  subst hK
  exact ⟨pe_int, good_int⟩
theorem s_str {y : Str} {j} (hK : X.K = K := by rfl) : SE X K T W (.Constant (.str y) j pos) (tC (.str y)) (eStr y) := by
  subst hK
  exact ⟨pe_str, good_str⟩
theorem s_bl {k : Bool} {j} (hK : X.K = K := by rfl) : SE X K T W (.Constant (.bool k) j pos) (tC (.bl k)) (eC (.bl k)) := by
  subst hK
  exact ⟨pe_bl, good_bl⟩
theorem s_non {j} (hK : X.K = K := by rfl) : SE X K T W (.Constant .none j pos) (tC .non) (eC .non) := by
  subst hK
  exact ⟨pe_non, good_non⟩
def tNeverE : TE := fun _ _ _ => False
/-- what is never come to -/
theorem s_no (hK : X.K = K := by rfl) : SE X K T W e tNeverE eNo := by
  subst hK
  exact ⟨⟨fun _ _ _ _ _ _ h => h.elim⟩, good_no⟩
theorem s_op {op : Operator} {r : R2} {f : Op2} (ho : OpR X (binaryOp op) r) (hg : OpG K r f) (ha : SE X K T W a ta va) (hb : SE X K T W b tb vb) (hK : X.K = K := by rfl) : SE X K T W (.BinOp a op b pos) (tOp r ta tb) (eOp f va vb) := by
  subst hK
  exact ⟨pe_op ho ha.pe hb.pe, good_op hg ha.good hb.good⟩
theorem s_add (ha : SE X K T W a ta va) (hb : SE X K T W b tb vb) (hK : X.K = K := by rfl) : SE X K T W (.BinOp a .Add b pos) (tOp rAddA ta tb) (eOp oAdd va vb) := by
  subst hK
  exact s_op op_addA opG_add ha hb
theorem s_sub (ha : SE X K T W a ta va) (hb : SE X K T W b tb vb) (hK : X.K = K := by rfl) : SE X K T W (.BinOp a .Sub b pos) (tOp (rI0 fun i j => .int (i - j)) ta tb) (eOp oSub va vb) := by
  subst hK
  exact s_op op_sub opG_sub ha hb
theorem s_mul (ha : SE X K T W a ta va) (hb : SE X K T W b tb vb) (hK : X.K = K := by rfl) : SE X K T W (.BinOp a .Mult b pos) (tOp rMulA ta tb) (eOp oMul va vb) := by
  subst hK
  exact s_op op_mulA opG_mul ha hb
theorem s_div (ha : SE X K T W a ta va) (hb : SE X K T W b tb vb) (hK : X.K = K := by rfl) : SE X K T W (.BinOp a .FloorDiv b pos) (tOp (rI CDivW fun i j => .int (i / j)) ta tb) (eOp oDiv va vb) := by
  subst hK
  exact s_op op_fdivW opG_div ha hb
theorem s_mod (ha : SE X K T W a ta va) (hb : SE X K T W b tb vb) (hK : X.K = K := by rfl) : SE X K T W (.BinOp a .Mod b pos) (tOp (rI (fun _ j => j ≠ 0) fun i j => .int (i.fmod j)) ta tb) (eOp oMod va vb) := by
  subst hK
  exact s_op op_modN opG_mod ha hb
theorem s_pow (ha : SE X K T W a ta va) (hb : SE X K T W b tb vb) (hK : X.K = K := by rfl) : SE X K T W (.BinOp a .Pow b pos) (tOp (rI CPowW fun i j => .int (i ^ j.toNat)) ta tb) (eOp oPow va vb) := by
  subst hK
  exact s_op op_powW opG_pow ha hb
theorem s_neg (ha : SE X K T W a ta va) (hK : X.K = K := by rfl) : SE X K T W (.UnaryOp .USub a pos) (tUn (rU fun i => .int (-i)) ta) (eOp1 oNeg va) := by
  subst hK
  exact ⟨pe_un un_neg ha.pe, good_un unG_neg ha.good⟩
/-- comparisons: the operator's rule, what it says -/
structure CmpS (X : Cx) (K : PySem.W.Frag) (op : CmpOp) (r : R2) (f : Op2) : Prop where
  o : OpR X (compareOp op) r
  g : OpG K r f
  m : ∀ b, behindInMarks op b = false
theorem c_eq (hu : X.A.units + 64 < cLine) (hK : X.K = K := by rfl) : CmpS X K .Eq (rEqD K) oEq := by
  subst hK
  exact ⟨op_eqD hu, opG_eq, fun b => nomark b⟩
theorem c_ne (hu : X.A.units + 64 < cLine) (hK : X.K = K := by rfl) : CmpS X K .NotEq (rNeD K) oNe := by
  subst hK
  exact ⟨op_neD hu, opG_ne, fun b => nomark b⟩
theorem c_lt  (hK : X.K = K := by rfl) : CmpS X K .Lt (rI0 fun i j => .bl (decide (i < j))) oLt := by
  subst hK
  exact ⟨op_lt, opG_cmp, fun b => nomark b⟩
theorem c_le  (hK : X.K = K := by rfl) : CmpS X K .LtE (rI0 fun i j => .bl (decide (i ≤ j))) oLe := by
  subst hK
  exact ⟨op_le, opG_cmp, fun b => nomark b⟩
theorem c_gt  (hK : X.K = K := by rfl) : CmpS X K .Gt (rI0 fun i j => .bl (decide (j < i))) oGt := by
  subst hK
  exact ⟨op_gt, opG_cmp, fun b => nomark b⟩
theorem c_ge  (hK : X.K = K := by rfl) : CmpS X K .GtE (rI0 fun i j => .bl (decide (j ≤ i))) oGe := by
  subst hK
  exact ⟨op_ge, opG_cmp, fun b => nomark b⟩
theorem s_cmp {op : CmpOp} {r : R2} {f : Op2} (h : CmpS X K op r f) (ha : SE X K T W a ta va) (hb : SE X K T W b tb vb) (hK : X.K = K := by rfl) : SE X K T W (.Compare a [op] [b] pos) (tOp r ta tb) (eOp f va vb) := by
  subst hK
  exact ⟨pe_cmpR h.o ha.pe hb.pe (h.m b), good_op h.g ha.good hb.good⟩
theorem st_cmp {op : CmpOp} {r : R2} {f : Op2} (h : CmpS X K op r f) (ha : SE X K T W a ta va) (hb : SE X K T W b tb vb) (hK : X.K = K := by rfl) : ST X K T W (.Compare a [op] [b] pos) (tTest (tOp r ta tb)) (tBl (eOp f va vb)) := by
  subst hK
  exact ⟨pt_cmpR h.o ha.pe hb.pe (h.m b), good_bltest (good_op h.g ha.good hb.good)⟩
theorem s_chain {op op' : CmpOp} {r r' : R2} {f f' : Op2} (h : CmpS X K op r f) (h' : CmpS X K op' r' f') (ha : SE X K T W a ta va) (hb : SE X K T W b tb vb) (hc : SE X K T W c tc vc) (hm : lastMarks [op, op'] [b, c] = false := by with_unfolding_all rfl) (hK : X.K = K := by rfl) :
    SE X K T W (.Compare a [op, op'] [b, c] pos) (tChain r r' ta tb tc) (eChain f f' va vb vc) := by
  subst hK
  exact ⟨pe_chain h.o h'.o ha.pe hb.pe hc.pe hm, good_chain h.g h'.g ha.good hb.good hc.good⟩
theorem st_chain {op op' : CmpOp} {r r' : R2} {f f' : Op2} (h : CmpS X K op r f) (h' : CmpS X K op' r' f') (ha : SE X K T W a ta va) (hb : SE X K T W b tb vb) (hc : SE X K T W c tc vc) (hm : lastMarks [op, op'] [b, c] = false := by with_unfolding_all rfl) (hK : X.K = K := by rfl) :
    ST X K T W (.Compare a [op, op'] [b, c] pos) (tTest (tChain r r' ta tb tc)) (tBl (eChain f f' va vb vc)) := by
  subst hK
  exact ⟨pt_chain h.o h'.o ha.pe hb.pe hc.pe hm, good_bltest (good_chain h.g h'.g ha.good hb.good hc.good)⟩
theorem s_isN {j pos'} (ha : SE X K T W a ta va) (hK : X.K = K := by rfl) : SE X K T W (.Compare a [.Is] [.Constant .none j pos'] pos) (tIsN ta) (eOp1 oIsN va) := by
  subst hK
  exact ⟨pe_cmp (pc_isN ha.pe) rfl, good_isN ha.good⟩
theorem s_notN {j pos'} (ha : SE X K T W a ta va) (hK : X.K = K := by rfl) : SE X K T W (.Compare a [.IsNot] [.Constant .none j pos'] pos) (tNotN ta) (eOp1 oNotN va) := by
  subst hK
  exact ⟨pe_cmp (pc_notN ha.pe) rfl, good_notN ha.good⟩
theorem st_isN {j pos'} (ha : SE X K T W a ta va) (hK : X.K = K := by rfl) : ST X K T W (.Compare a [.Is] [.Constant .none j pos'] pos) (tB (tIsN ta)) (tBl (eOp1 oIsN va)) := by
  subst hK
  exact ⟨pt_cmp (pc_isN ha.pe) rfl, good_bltest (good_isN ha.good)⟩
theorem st_notN {j pos'} (ha : SE X K T W a ta va) (hK : X.K = K := by rfl) : ST X K T W (.Compare a [.IsNot] [.Constant .none j pos'] pos) (tB (tNotN ta)) (tBl (eOp1 oNotN va)) := by
  subst hK
  exact ⟨pt_cmp (pc_notN ha.pe) rfl, good_bltest (good_notN ha.good)⟩
/-- a truth -/
theorem st_tru (ha : SE X K T W a ta va) (he : ∀ whole, isTrue a X.env whole = (do let v ← whole; standAt a.pos; holding [v] (truthy v)) := by intro _; rfl) (hK : X.K = K := by rfl) :
    ST X K T W a (fun σ H Q => ta σ H fun x H' => ∃ k, TruV K x H' k ∧ Q k H') (tTru va) := by
  subst hK
  exact ⟨pt_truth ha.pe he, good_tru ha.good⟩
theorem st_truV (i : Nat) (hN : X.N[i]? = some x := by rfl) (hv : Vis X.env.scope x := by first | exact Or.inl rfl | exact Or.inr (Or.inl rfl) | exact Or.inr (Or.inr rfl)) (hd : (x == ("__debug__" : Str)) = false := by decide)
    (hcd : (x == ("__classdict__" : Str)) = false := by decide) (hK : X.K = K := by rfl) : ST X K T W (.Name x pos) (fun σ H Q => tVar i σ H fun x H' => ∃ k, TruV K x H' k ∧ Q k H') (tTruV i) := by
  subst hK
  exact ⟨pt_truth (pe_var hN hv hd hcd) (fun _ => rfl), good_truV⟩
theorem sw_and1 (ha : ST X K T W a tt et) (hK : X.K = K := by rfl) : SW X K T W (.BoolOp .And [a] pos) tt et := by
  subst hK
  exact ⟨pw_and1 ha.pe, ha.good⟩
theorem sw_and (ha : ST X K T W a tt et) (hb : SW X K T W (.BoolOp .And (b :: es) pos) tu eu) (hK : X.K = K := by rfl) : SW X K T W (.BoolOp .And (a :: b :: es) pos) (L2.tAnd tt tu) (tAnd et eu) := by
  subst hK
  exact ⟨pw_and ha.pe hb.pe, good_tand ha.good hb.good⟩
theorem sw_or1 (ha : ST X K T W a tt et) (hK : X.K = K := by rfl) : SW X K T W (.BoolOp .Or [a] pos) tt et := by
  subst hK
  exact ⟨pw_or1 ha.pe, ha.good⟩
theorem sw_or (ha : ST X K T W a tt et) (hb : SW X K T W (.BoolOp .Or (b :: es) pos) tu eu) (hK : X.K = K := by rfl) : SW X K T W (.BoolOp .Or (a :: b :: es) pos) (L2.tOr tt tu) (tOr et eu) := by
  subst hK
  exact ⟨pw_or ha.pe hb.pe, good_tor ha.good hb.good⟩
theorem st_w (h : SW X K T W e tt et) (hK : X.K = K := by rfl) : ST X K T W e tt et := by
  subst hK
  exact ⟨h.pe.pt, h.good⟩
theorem st_not (ha : ST X K T W a tt et) (hK : X.K = K := by rfl) : ST X K T W (.UnaryOp .Not a pos) (L2.tNot tt) (tNot et) := by
  subst hK
  exact ⟨pt_not ha.pe, good_tnot ha.good⟩
theorem s_one {op} (h : SE X K T W a ta va) (hK : X.K = K := by rfl) : SE X K T W (.BoolOp op [a] pos) ta va := by
  subst hK
  exact ⟨pe_one h.pe, h.good⟩
theorem s_and (ha : SE X K T W a ta va) (hb : SE X K T W (.BoolOp .And (b :: es) pos) tb vb) (hK : X.K = K := by rfl) : SE X K T W (.BoolOp .And (a :: b :: es) pos) (tAndV ta tb) (eAnd va vb) := by
  subst hK
  exact ⟨pe_and ha.pe hb.pe, good_and ha.good hb.good⟩
theorem s_or (ha : SE X K T W a ta va) (hb : SE X K T W (.BoolOp .Or (b :: es) pos) tb vb) (hK : X.K = K := by rfl) : SE X K T W (.BoolOp .Or (a :: b :: es) pos) (tOrV ta tb) (eOr va vb) := by
  subst hK
  exact ⟨pe_or ha.pe hb.pe, good_or ha.good hb.good⟩
theorem s_not (ha : SE X K T W a ta va) (hK : X.K = K := by rfl) : SE X K T W (.UnaryOp .Not a pos) (tNotV ta) (eNot va) := by
  subst hK
  exact ⟨pe_not ha.pe, good_not ha.good⟩
theorem s_if (ht : ST X K T W c tt et) (ha : SE X K T W a ta va) (hb : SE X K T W b tb vb) (hK : X.K = K := by rfl) : SE X K T W (.IfExp c a b pos) (tIf tt ta tb) (eIf et va vb) := by
  subst hK
  exact ⟨pe_ifExp ht.pe ha.pe hb.pe, good_if ht.good ha.good hb.good⟩
/-! displays -/
theorem sa_nil (hK : X.K = K := by rfl) : SA X K T W [] tNil aNil := by
  subst hK
  exact ⟨pa_nil, good_nil⟩
theorem sa_cons (ha : SE X K T W a ta va) (hl : SA X K T W es t l) (hs : starEach (a :: es) X.env = (false, eval a X.env) :: starEach es X.env := by rfl) (hK : X.K = K := by rfl) : SA X K T W (a :: es) (tCons ta t) (aCons va l) := by
  subst hK
  exact ⟨pa_cons ha.pe hl.pe hs, good_cons ha.good hl.good⟩
theorem s_tup {k} (hl : SA X K T W es t l) (hK : X.K = K := by rfl) : SE X K T W (.Tuple es k pos) (tTup t) (eTup l) := by
  subst hK
  exact ⟨pe_tup hl.pe, good_tup hl.good⟩
theorem s_lst (hl : SA X K T W es t l) (hK : X.K = K := by rfl) : SE X K T W (.List es pos) (tLst t) (eLst l) := by
  subst hK
  exact ⟨pe_lst hl.pe, good_lst hl.good⟩
/-- a list that is a cell -/
theorem s_lstC (hl : SA X K T W es t l) (hK : X.K = K := by rfl) : SE X K T W (.List es pos) (tLst t) (eLstC l) := by
  subst hK
  exact ⟨pe_lst hl.pe, good_lstC hl.good⟩
theorem s_ix (ha : SE X K T W a ta va) (hb : SE X K T W b tb vb) (hs : PlainIx b := by exact fun _ _ => rfl) (hK : X.K = K := by rfl) : SE X K T W (.Subscript a b pos) (tOp (rIx K) ta tb) (eOp oIx va vb) := by
  subst hK
  exact ⟨pe_ix ix_seq ha.pe hb.pe hs, good_op opG_ix ha.good hb.good⟩
theorem s_dget (hu : X.A.units + 1 < cLine) (ha : SE X K T W a ta va) (hb : SE X K T W b tb vb) (hs : NoSl b := by exact fun _ _ => rfl) (hK : X.K = K := by rfl) : SE X K T W (.Subscript a b pos) (tDGet ta tb) (eDGet va vb) := by
  subst hK
  exact ⟨pe_dget hu ha.pe hb.pe hs, good_dget ha.good hb.good⟩
theorem sd_nil (hK : X.K = K := by rfl) : SD X K T W pos [] [] [] [] aNil := by
  subst hK
  exact ⟨pps_nil, good_pnil⟩
theorem sd_cons {y : Str} {j p} {keys : List (Option Expr)} {values : List Expr} {trs : List (TE × TE)} {ks : List Str} (ha : SE X K T W a ta va) (hr : SD X K T W pos keys values trs ks l) (hK : X.K = K := by rfl) :
    SD X K T W pos (some (.Constant (.str y) j p) :: keys) (a :: values) ((tC (.str y), ta) :: trs) (y :: ks) (aCons va l) := by
  subst hK
  exact ⟨pps_cons pe_str ha.pe hr.pe, good_pcons ha.good hr.good⟩
theorem s_disp {keys : List (Option Expr)} {values : List Expr} {trs : List (TE × TE)} {ks : List Str} (h : SD X K T W pos keys values trs ks l) (hall : keys.all (·.isSome) = true := by rfl) (hl : keys.length = values.length := by rfl) (h0 : keys ≠ [] := by exact fun z => nomatch z)
    (h15 : keys.length ≤ 15 := by decide) (hK : X.K = K := by rfl) : SE X K T W (.Dict keys values pos) (tDisp trs) (eDisp ks l) := by
  subst hK
  exact ⟨pe_disp h.pe hall hl h0 h15, good_disp h.good⟩
/-! calls -/
theorem s_call {k j : Nat} {ps : List Str} {F : Fn} (D : Def X.prog X.w K X.mg X.base T k x ps F) (hr : Room j X.A) (tk : Takes X W) (hn : Ar ps.length l) (hl : SA X K T W (e :: es) t l) (hk : k ≤ j := by decide) (hg : Gl X x := by rfl) (hdb : (x == ("__debug__" : Str)) = false := by decide)
    (he : starEach (e :: es) X.env = (false, eval e X.env) :: starEach es X.env := by rfl) (hpl : (backTo pos (starEach es X.env)).any (·.1) = false := by rfl) (hK : X.K = K := by rfl) :
    SE X K T W (.Call (.Name x p) (e :: es) [] pos) (tCallS (spD K T ps.length F) (WE W) t) (eCall F l) := by
  subst hK
  obtain ⟨f, fd, h1, h2, h3, h4, _⟩ := D.ex
  exact ⟨pe_callS h1 (hr.mono hk) hg h2 h3 (.all h4) (fun σ => passAt tk σ) hl.pe hdb he hpl, good_fn hn hl.good⟩
theorem s_b {id : String} {r : List V → Hp → VK → Prop} {f : OpA} (hc : CallR X (.builtin id) r) (hf : CallG K r f) (hv : bootBuiltins x = some (.builtin id)) (hm : X.mg x = none) (hl : SA X K T W (e :: es) t l) (hg : Gl X x := by rfl) (hn : x ≠ "__name__" := by decide)
    (hdb : (x == ("__debug__" : Str)) = false := by decide) (he : starEach (e :: es) X.env = (false, eval e X.env) :: starEach es X.env := by rfl) (hpl : (backTo pos (starEach es X.env)).any (·.1) = false := by rfl) (hK : X.K = K := by rfl) :
    SE X K T W (.Call (.Name x p) (e :: es) [] pos) (tCB r t) (eB f l) := by
  subst hK
  exact ⟨pe_callB hc hg hm hv hl.pe hn hdb he hpl, good_b hf hl.good⟩
theorem s_bt {id : String} {r : List V → Hp → VK → Prop} {f : OpA} (hc : CallR X (.type id) r) (hf : CallG K r f) (hv : bootBuiltins x = some (.type id)) (hm : X.mg x = none) (hl : SA X K T W (e :: es) t l) (hg : Gl X x := by rfl) (hn : x ≠ "__name__" := by decide)
    (hdb : (x == ("__debug__" : Str)) = false := by decide) (he : starEach (e :: es) X.env = (false, eval e X.env) :: starEach es X.env := by rfl) (hpl : (backTo pos (starEach es X.env)).any (·.1) = false := by rfl) (hK : X.K = K := by rfl) :
    SE X K T W (.Call (.Name x p) (e :: es) [] pos) (tCB r t) (eB f l) := by
  subst hK
  exact ⟨pe_callTy hc hg hm hv hl.pe hn hdb he hpl, good_b hf hl.good⟩
theorem b_len : bootBuiltins "len" = some (.builtin "len") := by decide +kernel
theorem b_abs : bootBuiltins "abs" = some (.builtin "abs") := by decide +kernel
theorem b_min : bootBuiltins "min" = some (.builtin "min") := by decide +kernel
theorem b_max : bootBuiltins "max" = some (.builtin "max") := by decide +kernel
theorem b_all : bootBuiltins "all" = some (.builtin "all") := by decide +kernel
theorem b_any : bootBuiltins "any" = some (.builtin "any") := by decide +kernel
theorem b_isi : bootBuiltins "isinstance" = some (.builtin "isinstance") := by decide +kernel
theorem b_int : bootBuiltins "int" = some (.type "int") := by decide +kernel
theorem b_list : bootBuiltins "list" = some (.type "list") := by decide +kernel
theorem b_tuple : bootBuiltins "tuple" = some (.type "tuple") := by decide +kernel
theorem b_ty (t : Ty) : bootBuiltins (Str.ofString t.nm) = some (.type t.nm) := by cases t <;> decide +kernel
section
variable (hm : X.mg x = none) (hl : SA X K T W (e :: es) t l)
end
theorem s_len (hm : X.mg "len" = none) (hl : SA X K T W [e] t l) (hg : Gl X "len" := by rfl) (he : starEach [e] X.env = (false, eval e X.env) :: starEach [] X.env := by rfl) (hK : X.K = K := by rfl) : SE X K T W (.Call (.Name "len" p) [e] [] pos) (tCB (rLenA K) t) (eB bLen l) := by
  subst hK
  exact s_b call_len callG_len b_len hm hl hg (by decide) (by decide) he rfl
theorem s_lenV (i : Nat) (hm : X.mg "len" = none) (hN : X.N[i]? = some x := by rfl) (hv : Vis X.env.scope x := by first | exact Or.inl rfl | exact Or.inr (Or.inl rfl) | exact Or.inr (Or.inr rfl)) (hd : (x == ("__debug__" : Str)) = false := by decide)
    (hcd : (x == ("__classdict__" : Str)) = false := by decide) (hg : Gl X "len" := by rfl) (hK : X.K = K := by rfl) : SE X K T W (.Call (.Name "len" p) [.Name x p1] [] pos) (tCB (rLenA K) (tCons (tVar i) tNil)) (eLenV i) := by
  subst hK
  exact ⟨pe_callB call_len hg hm b_len (pa_cons (pe_var hN hv hd hcd) pa_nil), good_lenV⟩
theorem s_abs (hm : X.mg "abs" = none) (hl : SA X K T W [e] t l) (hg : Gl X "abs" := by rfl) (he : starEach [e] X.env = (false, eval e X.env) :: starEach [] X.env := by rfl) (hK : X.K = K := by rfl) : SE X K T W (.Call (.Name "abs" p) [e] [] pos) (tCB rAbs t) (eB bAbs l) := by
  subst hK
  exact s_b call_abs callG_abs b_abs hm hl hg (by decide) (by decide) he rfl
theorem s_min (hc : X.calm = true) (hm : X.mg "min" = none) (hl : SA X K T W [a, b] t l) (hg : Gl X "min" := by rfl) (he : starEach [a, b] X.env = (false, eval a X.env) :: starEach [b] X.env := by rfl) (hpl : (backTo pos (starEach [b] X.env)).any (·.1) = false := by rfl) (hK : X.K = K := by rfl) : SE X K T W (.Call (.Name "min" p) [a, b] [] pos) (tCB rMin2 t) (eB bMin l) := by
  subst hK
  exact s_b (call_min2 hc) callG_min b_min hm hl hg (by decide) (by decide) he hpl
theorem s_max (hc : X.calm = true) (hm : X.mg "max" = none) (hl : SA X K T W [a, b] t l) (hg : Gl X "max" := by rfl) (he : starEach [a, b] X.env = (false, eval a X.env) :: starEach [b] X.env := by rfl) (hpl : (backTo pos (starEach [b] X.env)).any (·.1) = false := by rfl) (hK : X.K = K := by rfl) : SE X K T W (.Call (.Name "max" p) [a, b] [] pos) (tCB rMax2 t) (eB bMax l) := by
  subst hK
  exact s_b (call_max2 hc) callG_max b_max hm hl hg (by decide) (by decide) he hpl
theorem s_all (hc : X.calm = true) (hm : X.mg "all" = none) (hl : SA X K T W [e] t l) (hg : Gl X "all" := by rfl) (he : starEach [e] X.env = (false, eval e X.env) :: starEach [] X.env := by rfl) (hK : X.K = K := by rfl) : SE X K T W (.Call (.Name "all" p) [e] [] pos) (tCB (rAll K) t) (eB bAll l) := by
  subst hK
  exact s_b (cr_all hc) callG_all b_all hm hl hg (by decide) (by decide) he rfl
theorem s_any (hc : X.calm = true) (hm : X.mg "any" = none) (hl : SA X K T W [e] t l) (hg : Gl X "any" := by rfl) (he : starEach [e] X.env = (false, eval e X.env) :: starEach [] X.env := by rfl) (hK : X.K = K := by rfl) : SE X K T W (.Call (.Name "any" p) [e] [] pos) (tCB (rAny K) t) (eB bAny l) := by
  subst hK
  exact s_b (cr_any hc) callG_any b_any hm hl hg (by decide) (by decide) he rfl
theorem s_int1 (hm : X.mg "int" = none) (hl : SA X K T W [e] t l) (hg : Gl X "int" := by rfl) (he : starEach [e] X.env = (false, eval e X.env) :: starEach [] X.env := by rfl) (hK : X.K = K := by rfl) : SE X K T W (.Call (.Name "int" p) [e] [] pos) (tCB rInt1 t) (eB bInt l) := by
  subst hK
  exact s_bt call_int1 callG_int b_int hm hl hg (by decide) (by decide) he rfl
theorem s_list (hm : X.mg "list" = none) (hl : SA X K T W [e] t l) (hg : Gl X "list" := by rfl) (he : starEach [e] X.env = (false, eval e X.env) :: starEach [] X.env := by rfl) (hK : X.K = K := by rfl) : SE X K T W (.Call (.Name "list" p) [e] [] pos) (tCB (rListA K) t) (eB bList l) := by
  subst hK
  exact s_bt call_list_of callG_list b_list hm hl hg (by decide) (by decide) he rfl
theorem s_tuple (hm : X.mg "tuple" = none) (hl : SA X K T W [e] t l) (hg : Gl X "tuple" := by rfl) (he : starEach [e] X.env = (false, eval e X.env) :: starEach [] X.env := by rfl) (hK : X.K = K := by rfl) : SE X K T W (.Call (.Name "tuple" p) [e] [] pos) (tCB (rTupleA K) t) (eB bTuple l) := by
  subst hK
  exact s_bt call_tuple_of callG_tuple b_tuple hm hl hg (by decide) (by decide) he rfl
theorem s_isA (y : Ty) (hm : X.mg "isinstance" = none) (hy : X.mg (Str.ofString y.nm) = none) (ha : SE X K T W a ta va) (hs : starEach [a, .Name (Str.ofString y.nm) p2] X.env = (false, eval a X.env) :: starEach [.Name (Str.ofString y.nm) p2] X.env := by rfl) (hg : Gl X "isinstance" := by rfl) (hgy : Gl X (Str.ofString y.nm) := by rfl)
    (hny : Str.ofString y.nm ≠ "__name__" := by decide) (hdy : (Str.ofString y.nm == ("__debug__" : Str)) = false := by decide) (hK : X.K = K := by rfl) :
    SE X K T W (.Call (.Name "isinstance" p) [a, .Name (Str.ofString y.nm) p2] [] pos) (tCB (rIsi K) (tCons ta (tCons (tC (.ty y.nm)) tNil))) (eIsA va y) := by
  subst hK
  exact ⟨pe_callB call_isi hg hm b_isi (pa_cons ha.pe (pa_cons (pe_bltn hgy hy (b_ty y) rfl hny hdy) pa_nil) hs) (by decide) (by decide) hs rfl, good_isA ha.good⟩
/-! methods of lists -/
theorem s_popC {apos : Pos} (ha : SE X K T W a ta va) (hb : SE X K T W b tb vb) (hs : starEach [b] X.env = (false, eval b X.env) :: starEach [] X.env := by rfl) (hbase : attributeBase a "pop" X.env (eval a X.env) = eval a X.env := by rfl)
    (hfew : ((backTo pos (starEach [b] X.env)).all (fun x => !x.1) && (backToKw pos (keywordEach [] X.env)).all (fun x => x.1.isSome) && decide ([b].length + ([] : List Keyword).length + (if ([] : List Keyword).isEmpty then 0 else 1) < 30)) = true := by rfl)
    (hline : (apos.endLine == pos.line) = true := by rfl) (hK : X.K = K := by rfl) : SE X K T W (.Call (.Attribute a "pop" apos) [b] [] pos) (tBM K "list" rPopAt ta (tCons tb tNil)) (ePopC va vb) := by
  subst hK
  exact ⟨pe_bm PySem.F.plainAttrs_list PySem.F.slot_list_pop PySem.F.type_list_pop mt_popAt ha.pe (pa_cons hb.pe pa_nil hs) hbase hfew hline hs rfl, good_popC ha.good hb.good⟩
theorem s_popV {apos : Pos} (i : Nat) (hb : SE X K T W b tb vb) (hs : starEach [b] X.env = (false, eval b X.env) :: starEach [] X.env := by rfl) (hN : X.N[i]? = some x := by rfl) (hv : Vis X.env.scope x := by first | exact Or.inl rfl | exact Or.inr (Or.inl rfl) | exact Or.inr (Or.inr rfl))
    (hd : (x == ("__debug__" : Str)) = false := by decide) (hcd : (x == ("__classdict__" : Str)) = false := by decide) (hbase : attributeBase (.Name x p1) "pop" X.env (eval (.Name x p1) X.env) = eval (.Name x p1) X.env := by rfl)
    (hfew : ((backTo pos (starEach [b] X.env)).all (fun x => !x.1) && (backToKw pos (keywordEach [] X.env)).all (fun x => x.1.isSome) && decide ([b].length + ([] : List Keyword).length + (if ([] : List Keyword).isEmpty then 0 else 1) < 30)) = true := by rfl)
    (hline : (apos.endLine == pos.line) = true := by rfl) (hK : X.K = K := by rfl) : SE X K T W (.Call (.Attribute (.Name x p1) "pop" apos) [b] [] pos) (tBM K "list" rPopAt (tVar i) (tCons tb tNil)) (ePopV i vb) := by
  subst hK
  exact ⟨pe_bm PySem.F.plainAttrs_list PySem.F.slot_list_pop PySem.F.type_list_pop mt_popAt (pe_var hN hv hd hcd) (pa_cons hb.pe pa_nil hs) hbase hfew hline hs rfl, good_popV hb.good⟩
end
end Mini

set_option Elab.async false
set_option linter.all false
set_option maxRecDepth 100000
set_option maxHeartbeats 1000000
/-! PySE8: the rules as one writes them: walks, targets, comprehensions, statements. -/
namespace Mini
open PySem PySem.Spec PyProof.Rows L2
section
variable {X : Cx} {K : PySem.W.Frag} {T : XT} {W : WX} {a b c e tg iter : Expr} {es : List Expr} {ta tb tc te : TE} {va vb vc ve : EvE} {t : TA} {l : EvA} {tt tu : TT} {et eu : EvT} {pos p p1 p2 : Pos} {x y z : Str} {wi : TI} {ei : EvI} {g : TG} {eg : EvG} {vs ws : List Nat}
theorem si_seq (ha : SE X K T W a ta va) (hK : X.K = K := by rfl) : SI X K T W tg a (iList K ta) (iSeq va) := by
  subst hK
  exact ⟨pi_list ha.pe, good_iseq ha.good⟩
theorem si_tup (ha : SE X K T W a ta va) (hK : X.K = K := by rfl) : SI X K T W tg a (L2.iTup K ta) (iTup va) := by
  subst hK
  exact ⟨pi_tup ha.pe, good_ituple ha.good⟩
theorem si_range1 (hm : X.mg "range" = none) (hl : SA X K T W [a] t l) (hg : Gl X "range" := by rfl) (hs : starEach [a] X.env = [(false, eval a X.env)] := by rfl) (hK : X.K = K := by rfl) : SI X K T W tg (.Call (.Name "range" p) [a] [] pos) (iRng1 t) (iRange1 l) := by
  subst hK
  exact ⟨pi_range1 hg hm hl.pe hs, good_irange1 hl.good⟩
theorem si_range2 (hm : X.mg "range" = none) (hl : SA X K T W [a, b] t l) (hg : Gl X "range" := by rfl) (hs : starEach [a, b] X.env = [(false, eval a X.env), (false, eval b X.env)] := by rfl) (hs2 : starEach [b] X.env = [(false, eval b X.env)] := by rfl) (hK : X.K = K := by rfl) :
    SI X K T W tg (.Call (.Name "range" p) [a, b] [] pos) (iRng2 t) (iRange2 l) := by
  subst hK
  exact ⟨pi_range2 hg hm hl.pe hs hs2, good_irange2 hl.good⟩
theorem si_zip {k} (hm : X.mg "zip" = none) (hl : SA X K T W [a, b] t l) (hg : Gl X "zip" := by rfl) (hs : starEach [a, b] X.env = (false, eval a X.env) :: starEach [b] X.env := by rfl) (hpl : (backTo pos (starEach [b] X.env)).any (·.1) = false := by rfl) (hK : X.K = K := by rfl) :
    SI X K T W (.Tuple es k p1) (.Call (.Name "zip" p) [a, b] [] pos) (L2.iZip K t) (iZip l) := by
  subst hK
  exact ⟨pi_zip hg hm hl.pe hs hpl, good_izip hl.good⟩
/-- a list or a tuple, whichever it is -/
def iAnyT (K : PySem.W.Frag) (tl : TE) : TI := fun σ H R => iList K tl σ H R ∨ L2.iTup K tl σ H R
theorem pi_any {l : Expr} {tl : TE} (hl : PE X l tl) : PI X tg l (iAnyT X.K tl) :=
  ⟨fun pins s σ H R I h => h.elim ((pi_list hl).run pins s σ H R I) ((pi_tup hl).run pins s σ H R I)⟩
theorem good_iany {K : PySem.W.Frag} (ha : GoodE K T W ta va) : GoodI K T W (iAnyT K ta) (iAny va) := by
  intro g B ρ st σ H rel
  have h1 := good_iseq ha g B ρ st σ H rel
  have h2 := good_ituple ha g B ρ st σ H rel
  unfold iSeq at h1
  unfold iTup at h2
  unfold iAny
  cases e : va st with
  | no => trivial
  | ex x s1 =>
    rw [e] at h1
    exact h1.conv fun Q q => .inl q
  | ok v s1 =>
    rw [e] at h1 h2
    simp only [R.bind_ok] at h1 h2 ⊢
    cases ed : v.d with
    | lst xs =>
      rw [ed] at h1
      exact h1.conv fun Q q => .inl q
    | tup xs =>
      rw [ed] at h2
      exact h2.conv fun Q q => .inr q
    | _ => trivial
theorem si_any (ha : SE X K T W a ta va) (hK : X.K = K := by rfl) : SI X K T W tg a (iAnyT K ta) (iAny va) := by
  subst hK
  exact ⟨pi_any ha.pe, good_iany ha.good⟩
/-! targets -/
theorem sg_nm (i : Nat) (hN : X.N.Nodup) (hi : X.N[i]? = some x := by rfl) (hx : Loc X.env.scope x := by first | exact Or.inl rfl | exact Or.inr rfl) (hf : X.fn x = true ∨ X.env.scope.names.lookup x = some .local := by first | exact .inl rfl | exact .inr rfl) (hK : X.K = K := by rfl) : SG X K (.Name x pos) (gName i) (gNm i) [i] := by
  subst hK
  exact ⟨pg_name hN hi hx hf, good_gname⟩
theorem sgs_nil (hK : X.K = K := by rfl) : SGs X K [] gNil gNone [] 0 := by
  subst hK
  exact ⟨pgs_nil, good_gnil, lenG_nil⟩
theorem sgs_cons {u : TGs} {eu : EvGs} {n : Nat} (h1 : SG X K e g eg vs) (h2 : SGs X K es u eu ws n) (hs : (assignEach (e :: es) X.env).map (·.2) = assign e X.env :: (assignEach es X.env).map (·.2) := by rfl) (hK : X.K = K := by rfl) : SGs X K (e :: es) (gCons g u) (gMore eg eu) (vs ++ ws) (n + 1) := by
  subst hK
  exact ⟨pgs_cons h1.pe h2.pe hs, good_gcons h1.good h2.good, lenG_cons h2.len⟩
theorem sg_tup {u : TGs} {eu : EvGs} {n k : Nat} (hc : X.calm = true) (h : SGs X K es u eu vs n) (hn : (assignEach es X.env).length = n := by rfl) (hst : (assignEach es X.env).findIdx? (·.1) = none := by rfl) (hK : X.K = K := by rfl) : SG X K (.Tuple es k pos) (gTup K n u) (gTp eu) vs := by
  subst hK
  exact ⟨pg_tup hc h.pe hn hst, good_gtup h.len h.good⟩
/-! comprehensions -/
theorem sq_nil (hK : X.K = K := by rfl) : SQ X K T W [] L2.tYes tYes := by
  subst hK
  exact ⟨pts_nil, good_yes⟩
theorem sq_one (h : ST X K T W c tt et) (hK : X.K = K := by rfl) : SQ X K T W [c] tt et := by
  subst hK
  exact ⟨pts_one h.pe, h.good⟩
theorem s_comp {elt : Expr} {ifs : List Expr} {scope : Scope} {own : List (Str × Nat)} {vl : List Nat} (hc : X.calm = true) (hN : X.N.Nodup) (hi : SI X K T W tg iter wi ei) (ok : BlkOk X.N X.env.scope scope own)
    (hg : ∀ (s : Shared) (H : Hp) (C : Addr) (cl : List (Str × Addr)) (fp : List Addr), SG (X.blk s H scope (compEnvC scope cl C X.env) fp) K tg g eg vs) (ht : ∀ (s : Shared) (H : Hp) (C : Addr) (cl : List (Str × Addr)) (fp : List Addr), SQ (X.blk s H scope (compEnvC scope cl C X.env) fp) K T WF ifs tt et)
    (he : ∀ (s : Shared) (H : Hp) (C : Addr) (cl : List (Str × Addr)) (fp : List Addr), SE (X.blk s H scope (compEnvC scope cl C X.env) fp) K T WF elt te ve) (hvl : own.map (·.2) = vl := by rfl) (hw : ∀ j ∈ vs, j ∈ vl := by decide) (hs : ∀ x, foldedSetIterable iter X.env x = pure x := by intro _; rfl) (hK : X.K = K := by rfl) :
    SE X K T W (.ListComp elt [⟨tg, iter, ifs, 0⟩] scope pos) (tLc wi g tt te vl) (eComp ei eg et ve vl) := by
  subst hK
  exact ⟨hvl ▸ pe_lc hc hN hi.pe ok (fun s H C cl fp => (hg s H C cl fp).pe) (fun s H C cl fp => (ht s H C cl fp).pe) (fun s H C cl fp => (he s H C cl fp).pe) hs, good_comp hw hi.good (hg X.s_0 X.H_0 0 [] []).good (ht X.s_0 X.H_0 0 [] []).good (he X.s_0 X.H_0 0 [] []).good⟩
/-- name = [..] -/
theorem ss_comp {i : Nat} {py spos : Pos} {elt : Expr} {ifs : List Expr} {scope : Scope} {own : List (Str × Nat)} {vl : List Nat} (hc : X.calm = true) (hN : X.N.Nodup) (hi : SI X K T W tg iter wi ei) (ok : BlkOk X.N X.env.scope scope own)
    (hg : ∀ (s : Shared) (H : Hp) (C : Addr) (cl : List (Str × Addr)) (fp : List Addr), SG (X.blk s H scope (compEnvC scope cl C X.env) fp) K tg g eg vs) (ht : ∀ (s : Shared) (H : Hp) (C : Addr) (cl : List (Str × Addr)) (fp : List Addr), SQ (X.blk s H scope (compEnvC scope cl C X.env) fp) K T WF ifs tt et)
    (he : ∀ (s : Shared) (H : Hp) (C : Addr) (cl : List (Str × Addr)) (fp : List Addr), SE (X.blk s H scope (compEnvC scope cl C X.env) fp) K T WF elt te ve) (hvl : own.map (·.2) = vl := by rfl) (hw : ∀ j ∈ vs, j ∈ vl := by decide) (hs : ∀ x, foldedSetIterable iter X.env x = pure x := by intro _; rfl)
    (hy : X.N[i]? = some y := by rfl) (hyl : X.env.scope.names.lookup y = some .local := by rfl) (hsw : swapsWith (.ListComp elt [⟨tg, iter, ifs, 0⟩] scope pos) (some (.Name y py)) spos.line X.env = pure true := by exact sw_true rfl rfl rfl (by decide +kernel)) (hK : X.K = K := by rfl) :
    SS X K T W (.Assign [.Name y py] (.ListComp elt [⟨tg, iter, ifs, 0⟩] scope pos) spos) (tAsg (tLc wi g tt te vl) (gName i)) (sSet i (eComp ei eg et ve vl)) := by
  subst hK
  exact ⟨hvl ▸ ps_setLc hc hN hy hyl hsw hi.pe ok (fun s H C cl fp => (hg s H C cl fp).pe) (fun s H C cl fp => (ht s H C cl fp).pe) (fun s H C cl fp => (he s H C cl fp).pe) hs, good_set (good_comp hw hi.good (hg X.s_0 X.H_0 0 [] []).good (ht X.s_0 X.H_0 0 [] []).good (he X.s_0 X.H_0 0 [] []).good)⟩
/-! statements -/
variable {s1 : TS} {e1 : EvS} {s2 : TS} {e2 : EvS} {st : Stmt} {sts : List Stmt}
theorem sb_nil (hK : X.K = K := by rfl) : SB X K T W [] tNext sPass := by
  subst hK
  exact ⟨pss_nil, good_pass⟩
theorem sb_one (h : SS X K T W st s1 e1) (hK : X.K = K := by rfl) : SB X K T W [st] s1 e1 := by
  subst hK
  exact ⟨pss_one h.pe, h.good⟩
theorem sb_cons (h1 : SS X K T W st s1 e1) (h2 : SB X K T W sts s2 e2) (hK : X.K = K := by rfl) : SB X K T W (st :: sts) (tSeq s1 s2) (sSeq e1 e2) := by
  subst hK
  exact ⟨pss_cons h1.pe h2.pe, good_seq h1.good h2.good⟩
theorem ss_no (hK : X.K = K := by rfl) : SS X K T W st tNever sNo := by
  subst hK
  exact ⟨ps_never, good_sno⟩
theorem sb_no (hK : X.K = K := by rfl) : SB X K T W sts tNever sNo := by
  subst hK
  exact ⟨pss_never, good_sno⟩
theorem ss_set (i : Nat) (hN : X.N.Nodup) (he : SE X K T W e te ve) (hi : X.N[i]? = some x := by rfl) (hx : Loc X.env.scope x := by first | exact Or.inl rfl | exact Or.inr rfl) (hs : swapsWith e (some (.Name x p)) pos.line X.env = pure false := by rfl)
    (hf : X.fn x = true ∨ X.env.scope.names.lookup x = some .local := by first | exact .inl rfl | exact .inr rfl) (hK : X.K = K := by rfl) : SS X K T W (.Assign [.Name x p] e pos) (tAsg te (gName i)) (sSet i ve) := by
  subst hK
  exact ⟨ps_set hN hi hx he.pe hs hf, good_set he.good⟩
theorem ss_get (he : SE X K T W e te ve) (hg : SG X K tg g eg vs) (hs : swapsWithSole [tg] e pos.line X.env = pure false := by rfl) (hw : swappedStores [tg] e X.env = pure none := by rfl) (h1 : (assignEach [tg] X.env).map (·.2) = [assign tg X.env] := by rfl) (hK : X.K = K := by rfl) :
    SS X K T W (.Assign [tg] e pos) (tAsg te g) (sGet eg ve) := by
  subst hK
  exact ⟨ps_asg he.pe hg.pe hs hw h1, good_get hg.good he.good⟩
theorem ss_par2 {kt k2 : Nat} {px py pt pt2 : Pos} (i j : Nat) (hc : X.calm = true) (hN : X.N.Nodup) (ha : SE X K T W a ta va) (hb : SE X K T W b tb vb) (hi : X.N[i]? = some x := by rfl) (hj : X.N[j]? = some y := by rfl) (hij : i ≠ j := by decide)
    (hx : X.env.scope.names.lookup x = some .local := by rfl) (hy : X.env.scope.names.lookup y = some .local := by rfl) (hs1 : starEach [a, b] X.env = (false, eval a X.env) :: starEach [b] X.env := by rfl) (hs2 : starEach [b] X.env = (false, eval b X.env) :: starEach [] X.env := by rfl)
    (hw : swappedStores [.Tuple [.Name x px, .Name y py] kt pt] (.Tuple [a, b] k2 pt2) X.env = pure (some [x, y]) := by rfl) (hs : swapsWithSole [.Tuple [.Name x px, .Name y py] kt pt] (.Tuple [a, b] k2 pt2) pos.line X.env = pure false := by rfl) (hK : X.K = K := by rfl) :
    SS X K T W (.Assign [.Tuple [.Name x px, .Name y py] kt pt] (.Tuple [a, b] k2 pt2) pos) (tPar i j (tCons ta (tCons tb tNil))) (sPar [i, j] [va, vb]) := by
  subst hK
  exact ⟨ps_par hc hN hi hj hij hx hy (pa_cons ha.pe (pa_cons hb.pe pa_nil hs2) hs1) hw hs, good_par2 ha.good hb.good⟩
theorem ss_par3 {kt k2 : Nat} {px py pz pt pt2 : Pos} (i j k : Nat) (hc : X.calm = true) (hN : X.N.Nodup) (ha : SE X K T W a ta va) (hb : SE X K T W b tb vb) (hcc : SE X K T W c tc vc) (hi : X.N[i]? = some x := by rfl) (hj : X.N[j]? = some y := by rfl) (hk : X.N[k]? = some z := by rfl)
    (hij : i ≠ j := by decide) (hik : i ≠ k := by decide) (hjk : j ≠ k := by decide) (hx : X.env.scope.names.lookup x = some .local := by rfl) (hy : X.env.scope.names.lookup y = some .local := by rfl) (hz : X.env.scope.names.lookup z = some .local := by rfl)
    (hs1 : starEach [a, b, c] X.env = (false, eval a X.env) :: starEach [b, c] X.env := by rfl) (hs2 : starEach [b, c] X.env = (false, eval b X.env) :: starEach [c] X.env := by rfl) (hs3 : starEach [c] X.env = (false, eval c X.env) :: starEach [] X.env := by rfl)
    (hw : swappedStores [.Tuple [.Name x px, .Name y py, .Name z pz] kt pt] (.Tuple [a, b, c] k2 pt2) X.env = pure (some [x, y, z]) := by rfl) (hs : swapsWithSole [.Tuple [.Name x px, .Name y py, .Name z pz] kt pt] (.Tuple [a, b, c] k2 pt2) pos.line X.env = pure false := by rfl) (hK : X.K = K := by rfl) :
    SS X K T W (.Assign [.Tuple [.Name x px, .Name y py, .Name z pz] kt pt] (.Tuple [a, b, c] k2 pt2) pos) (tPar3 i j k (tCons ta (tCons tb (tCons tc tNil)))) (sPar [i, j, k] [va, vb, vc]) := by
  subst hK
  exact ⟨ps_par3 hc hN hi hj hk hij hik hjk hx hy hz (pa_cons ha.pe (pa_cons hb.pe (pa_cons hcc.pe pa_nil hs3) hs2) hs1) hw hs, good_par3 ha.good hb.good hcc.good⟩
theorem ss_ret (he : SE X K T W e te ve) (hK : X.K = K := by rfl) : SS X K T W (.Return (some e) pos) (tRet te) (sRet ve) := by
  subst hK
  exact ⟨ps_ret he.pe, good_ret he.good⟩
theorem ss_retN (hK : X.K = K := by rfl) : SS X K T W (.Return none pos) tRetN sRetN := by
  subst hK
  exact ⟨ps_retN, good_retN⟩
theorem ss_if {s0 : List Stmt} (hc : ST X K T W c tt et) (h1 : SB X K T W sts s1 e1) (h2 : SB X K T W s0 s2 e2) (hK : X.K = K := by rfl) : SS X K T W (.If c sts s0 pos) (tIfS tt s1 s2) (sIf et e1 e2) := by
  subst hK
  exact ⟨ps_if hc.pe h1.pe h2.pe, good_sif hc.good h1.good h2.good⟩
theorem ss_drop (he : SE X K T W e te ve) (hs : swapsWith e none pos.line X.env = pure false := by rfl) (hK : X.K = K := by rfl) : SS X K T W (.Expr e pos) (tDrop te) (sDrop ve) := by
  subst hK
  exact ⟨ps_expr he.pe hs, good_drop he.good⟩
theorem ss_break (hK : X.K = K := by rfl) : SS X K T W (.Break pos) tBreak sBreak := by
  subst hK
  exact ⟨ps_break, good_break⟩
theorem ss_cont (hK : X.K = K := by rfl) : SS X K T W (.Continue pos) tCont sCont := by
  subst hK
  exact ⟨ps_continue, good_cont⟩
theorem ss_pass (hK : X.K = K := by rfl) : SS X K T W (.Pass pos) tNext sPass := by
  subst hK
  exact ⟨ps_pass, good_pass⟩
theorem ss_app {apos cpos : Pos} (i : Nat) (hb : SE X K T W b tb vb) (hs : starEach [b] X.env = (false, eval b X.env) :: starEach [] X.env := by rfl) (hN : X.N[i]? = some x := by rfl) (hv : Vis X.env.scope x := by first | exact Or.inl rfl | exact Or.inr (Or.inl rfl) | exact Or.inr (Or.inr rfl))
    (hd : (x == ("__debug__" : Str)) = false := by decide) (hcd : (x == ("__classdict__" : Str)) = false := by decide) (hbase : attributeBase (.Name x p1) "append" X.env (eval (.Name x p1) X.env) = eval (.Name x p1) X.env := by rfl)
    (hfew : ((backTo cpos (starEach [b] X.env)).all (fun x => !x.1) && (backToKw cpos (keywordEach [] X.env)).all (fun x => x.1.isSome) && decide ([b].length + ([] : List Keyword).length + (if ([] : List Keyword).isEmpty then 0 else 1) < 30)) = true := by rfl)
    (hline : (apos.endLine == cpos.line) = true := by rfl) (hsw : swapsWith (.Call (.Attribute (.Name x p1) "append" apos) [b] [] cpos) none pos.line X.env = pure false := by rfl) (hK : X.K = K := by rfl) :
    SS X K T W (.Expr (.Call (.Attribute (.Name x p1) "append" apos) [b] [] cpos) pos) (tDrop (tBM K "list" rAppend (tVar i) (tCons tb tNil))) (sApp i vb) := by
  subst hK
  exact ⟨ps_expr (pe_bm PySem.F.plainAttrs_list PySem.F.slot_list_append PySem.F.type_list_append mt_append (pe_var hN hv hd hcd) (pa_cons hb.pe pa_nil hs) hbase hfew hline hs rfl) hsw, good_app hb.good⟩
theorem ss_appC {apos cpos : Pos} (ha : SE X K T W a ta va) (hb : SE X K T W b tb vb) (hs : starEach [b] X.env = (false, eval b X.env) :: starEach [] X.env := by rfl) (hbase : attributeBase a "append" X.env (eval a X.env) = eval a X.env := by rfl)
    (hfew : ((backTo cpos (starEach [b] X.env)).all (fun x => !x.1) && (backToKw cpos (keywordEach [] X.env)).all (fun x => x.1.isSome) && decide ([b].length + ([] : List Keyword).length + (if ([] : List Keyword).isEmpty then 0 else 1) < 30)) = true := by rfl)
    (hline : (apos.endLine == cpos.line) = true := by rfl) (hsw : swapsWith (.Call (.Attribute a "append" apos) [b] [] cpos) none pos.line X.env = pure false := by rfl) (hK : X.K = K := by rfl) :
    SS X K T W (.Expr (.Call (.Attribute a "append" apos) [b] [] cpos) pos) (tDrop (tBM K "list" rAppend ta (tCons tb tNil))) (sAppC va vb) := by
  subst hK
  exact ⟨ps_expr (pe_bm PySem.F.plainAttrs_list PySem.F.slot_list_append PySem.F.type_list_append mt_append ha.pe (pa_cons hb.pe pa_nil hs) hbase hfew hline hs rfl) hsw, good_appC ha.good hb.good⟩
theorem ss_dput (hu : X.A.units + 1 < cLine) (ha : SE X K T W a ta va) (hb : SE X K T W b tb vb) (hc : SE X K T W c tc vc) (hs : swapsWith c (some (.Subscript a b p)) pos.line X.env = pure false := by rfl) (hK : X.K = K := by rfl) : SS X K T W (.Assign [.Subscript a b p] c pos) (L2.sDPut ta tb tc) (sDPut va vb vc) := by
  subst hK
  exact ⟨ps_dput hu ha.pe hb.pe hc.pe hs, good_dput ha.good hb.good hc.good⟩
theorem ss_for (hp : PassesOwn (model X.prog X.w) X.A X.env X.xe) (hc : X.calm = true) (hi : SI X K T W tg iter wi ei) (hg : SG X K tg g eg vs) (hb : SB X K T W sts s1 e1) (hs : ∀ x, foldedSetIterable iter X.env x = pure x := by intro _; rfl) (hK : X.K = K := by rfl) : SS X K T W (.For tg iter sts [] pos) (tFor wi g s1) (sFor ei eg e1) := by
  subst hK
  exact ⟨ps_for hp hc hi.pe hg.pe hb.pe hs, good_for hi.good hg.good hb.good⟩
theorem ss_while (n : Nat) (hp : PassesOwn (model X.prog X.w) X.A X.env X.xe) (hc : ST X K T W c tt et) (hb : SB X K T W sts s1 e1) (hK : X.K = K := by rfl) : SS X K T W (.While c sts [] pos) (tWhile tt s1) (sWhile n et e1) := by
  subst hK
  exact ⟨ps_while hp hc.pe hb.pe, good_while hc.good hb.good⟩
end
end Mini

set_option Elab.async false
set_option linter.all false
set_option maxRecDepth 100000
set_option maxHeartbeats 1000000
/-! PySE9: the end of a law. -/
namespace Mini
open PySem PySem.Spec PyProof.Rows L2
theorem TxtD.mk' {K : PySem.W.Frag} {h : Heap} {mg : Str → Option Value} (X : K.In h) (G : h.Ns mainGlobals mg) {x : Str} {st : Stmt} {ps : List Str} {f : Addr} {od an : Option Addr} {sl : Array (Option Value)} {oc kV dc pm cd ct : Value}
    (a : PySem.W.nsIn K mainGlobals x = some (some (.ref f))) (l : K.lookup f = some ⟨oc, od, .func (PySem.W.fnOf x x (defArgs st) (defBody st) (defScope st) .none kV dc pm an cd ct), sl⟩) (c : PySem.W.codeIn K cd x = true) (k : PySem.W.keepIn K (.ref f) = true)
    (hb : ∀ (kV doc pm : Value) (an : Option Addr) (cdv ct : Value) (us : List Value), us.length = ps.length → bindArgs (PySem.W.fnOf x x (defArgs st) (defBody st) (defScope st) .none kV doc pm an cdv ct) ⟨us, []⟩ = pure (ps.zip us)) : TxtD K mg x st ps :=
  ⟨f, _, fun_mk (st := st) l c k, PySem.W.mg_of X G a, hb kV dc pm an cd ct⟩
theorem noCX {P : Program} {w : World} {H : Hp} {s : Shared} {e : Value} {s' : Shared} (h : L2.CX P w [] H s (fun _ _ _ => False) e s') : False := by
  obtain ⟨_, _, _, _, _, _, _, _, _, _, _, _, z⟩ := h
  exact z
/-- the script alone -/
theorem script_sp {K : PySem.W.Frag} {T : XT} {F : Fn} {H : Hp} {a : Addr} {ns : List Int} (hS : SqL K H a (ns.map V.int)) {om : List Cell} (hF : F [.scr ns] [] = .ok (.sh (.bl true)) om) : spD K T 1 F [.ref a] H (fun v _ => v = .bl true) (fun _ _ _ => False) := by
  refine ⟨rfl, H, [], [.scr ns], [], ⟨rfl, Sub.refl _, hide_sub (ρ := []) (H := H), fun a ha => .inl ha, List.nodup_nil, rfl, fun n c b h1 => by simp at h1, fun b hb => by simp at hb, fun i v e => by simp at e, fun i ds p e _ => by simp at e, fun i j ds es p e _ _ _ => by simp at e, Sub.refl _⟩, .cons (.scr hS) .nil, ?_⟩
  rw [hF]
  intro B' ρ' x H' m r o
  have o : Rep K B' ρ' x (.bl true) := o
  cases o
  rfl
/-- the law's own def, for the end -/
theorem law_F {P : World → Program} {w : World} {K : PySem.W.Frag} {mg : Str → Option Value} {fa : Addr} {F : Fn} {k : Nat} {st : Stmt} {x y : Str} {T : XT} (hfa : mg x = some (.ref fa)) (D : TxtD K mg x st [y])
    (hD : ∀ base : Heap, Def (P w) w K mg base T k x [y] F) :
    ∃ fd : FuncData, (∀ (s : Shared) (u : Value), BindsTo s fd ⟨[u], []⟩ [(y, u)]) ∧ ∀ base : Heap, K.In base → base.Ns mainGlobals mg → FnOk (P w) w K mg base (L2.CX (P w) w) k fa fd [y] (spD K T 1 F) := by
  obtain ⟨f, fd, Fn, hm, hb⟩ := D.ex
  rw [hfa] at hm
  cases hm
  refine ⟨fd, fun s u => .of_eq (hb [u] rfl), fun base _ _ => ?_⟩
  obtain ⟨f', fd', h1, h2, h3, h4, oc, od, osl, h5⟩ := (hD base).ex
  rw [hfa] at h2
  cases h2
  obtain ⟨oc2, od2, osl2, h6⟩ := Fun.look Fn
  rw [h5] at h6
  cases h6
  exact h1
end Mini

set_option linter.all false
set_option maxRecDepth 100000
/-! PyLib: the evaluator's terms reckoned out by simp. -/
namespace Mini
open PySem
section
variable (st : St) (i j : Nat) (a b c e : EvE) (d : D) (l r : EvA) (t u : EvT) (p q : EvS) (g : EvG) (gs : EvGs) (it : EvI) (f h : Op2) (f1 : Op1) (fa : OpA) (F : Fn)
@[simp] theorem x_var : eVar i st = match st.env[i]? with
  | some (some (.sh d)) => .ok (.sh d) st
  | some (some (.ow xs)) => .ok (.sh (.lst xs)) { st with env := st.env.set i (some (.sh (.lst xs))) }
  | _ => .no := (rfl)
@[simp] theorem x_own : eOwn i st = match st.env[i]? with
  | some (some (.ow xs)) => .ok (.ow xs) { st with env := st.env.set i none }
  | some (some (.sh d)) => .ok (.sh d) st
  | _ => .no := (rfl)
@[simp] theorem x_c : eC d st = .ok (.sh d) st := (rfl)
@[simp] theorem x_int (k : Int) : eInt k st = .ok (.sh (.int k)) st := (rfl)
@[simp] theorem x_str (k : Str) : eStr k st = .ok (.sh (.str k)) st := (rfl)
@[simp] theorem x_op : eOp f a b st = (a st).bind fun x s1 => (b s1).bind fun y s2 => match f x.d y.d with
  | some v => .ok v s2
  | none => .no := (rfl)
@[simp] theorem x_op1 : eOp1 f1 a st = (a st).bind fun x s1 => match f1 x.d with
  | some v => .ok v s1
  | none => .no := (rfl)
@[simp] theorem x_nil : aNil st = .ok [] st := (rfl)
@[simp] theorem x_cons : aCons e l st = (e st).bind fun x s1 => (l s1).bind fun xs s2 => .ok (x.d :: xs) s2 := (rfl)
@[simp] theorem x_tup : eTup l st = (l st).bind fun xs s1 => if xs.length ≤ many then .ok (.sh (.tup xs)) s1 else .no := (rfl)
@[simp] theorem x_lst : eLst l st = (l st).bind fun xs s1 => if xs.length ≤ many then .ok (.ow xs) s1 else .no := (rfl)
@[simp] theorem x_lstC : eLstC l st = (l st).bind fun xs s1 => if xs.length ≤ many then .ok (.sh (.cell s1.om.length)) { s1 with om := s1.om ++ [.lst xs] } else .no := (rfl)
@[simp] theorem x_disp (ks : List Str) : eDisp ks l st = (l st).bind fun ds s1 =>
  if ds.length = ks.length ∧ ks.length ≤ 15 then .ok (.sh (.cell s1.om.length)) { s1 with om := s1.om ++ [.dK ((ks.zip ds).foldl (fun acc kv => kvPut acc (.inr kv.1) kv.2) [])] } else .no := (rfl)
@[simp] theorem x_lenV : eLenV i st = match st.look i with
  | some xs => .ok (.sh (.int xs.length)) st
  | none => .no := (rfl)
@[simp] theorem x_look : st.look i = match st.env[i]? with
  | some (some (.sh (.lst xs))) => some xs
  | some (some (.ow xs)) => some xs
  | _ => none := (rfl)
@[simp] theorem x_dget : eDGet a b st = (a st).bind fun x s1 => (b s1).bind fun y s2 => match x.d, y.d.ky? with
  | .cell n, some k => (match s2.om[n]? with
    | some (.dK kvs) => (match kvGet kvs k with
      | some d => .ok (.sh d) s2
      | none => .no)
    | _ => .no)
  | _, _ => .no := (rfl)
@[simp] theorem x_popC : ePopC a b st = (a st).bind fun x s1 => match x.d with
  | .cell n => (match s1.om[n]? with
    | some (.lst _) => (b s1).bind fun y s2 => (match y.d, s2.om[n]? with
      | .int i, some (.lst xs) => if 0 ≤ i ∧ i < 1000000 then (match xs[i.toNat]? with
        | some d => .ok (.sh d) { s2 with om := s2.om.set n (.lst (xs.eraseIdx i.toNat)) }
        | none => .no) else .no
      | _, _ => .no)
    | _ => .no)
  | _ => .no := (rfl)
@[simp] theorem x_popV : ePopV j b st = match st.env[j]? with
  | some (some (.ow _)) => (b st).bind fun y s2 => (match y.d, s2.env[j]? with
    | .int i, some (some (.ow xs)) => if 0 ≤ i ∧ i < 1000000 then (match xs[i.toNat]? with
        | some d => .ok (.sh d) { s2 with env := s2.env.set j (some (.ow (xs.eraseIdx i.toNat))) }
        | none => .no) else .no
    | _, _ => .no)
  | _ => .no := (rfl)
@[simp] theorem x_tru : tTru e st = (e st).bind fun x s1 => match x.d.tru s1.om with
  | some b => .ok b s1
  | none => .no := (rfl)
@[simp] theorem x_truV : tTruV i st = match st.look i with
  | some xs => .ok (!xs.isEmpty) st
  | none => .no := (rfl)
@[simp] theorem x_bl : tBl e st = (e st).bind fun x s1 => match x.d with
  | .bl b => .ok b s1
  | _ => .no := (rfl)
@[simp] theorem x_tand : tAnd t u st = (t st).bind fun x s1 => if x = true then u s1 else .ok false s1 := (rfl)
@[simp] theorem x_tor : tOr t u st = (t st).bind fun x s1 => if x = true then .ok true s1 else u s1 := (rfl)
@[simp] theorem x_tnot : tNot t st = (t st).bind fun x s1 => .ok (!x) s1 := (rfl)
@[simp] theorem x_and : eAnd a b st = (a st).bind fun x s1 => match x.d with
  | .bl true => b s1
  | .bl false => .ok (.sh (.bl false)) s1
  | _ => .no := (rfl)
@[simp] theorem x_or : eOr a b st = (a st).bind fun x s1 => match x.d with
  | .bl true => .ok (.sh (.bl true)) s1
  | .bl false => b s1
  | _ => .no := (rfl)
@[simp] theorem x_not : eNot a st = (a st).bind fun x s1 => match x.d with
  | .bl b => .ok (.sh (.bl (!b))) s1
  | _ => .no := (rfl)
@[simp] theorem x_if : eIf t a b st = (t st).bind fun c s1 => if c = true then a s1 else b s1 := (rfl)
@[simp] theorem x_chain : eChain f h a b c st = (a st).bind fun x s1 => (b s1).bind fun y s2 => match f x.d y.d with
  | some v => (match v.d with
    | .bl true => (c s2).bind fun z s3 => (match h y.d z.d with
      | some w => .ok w s3
      | none => .no)
    | .bl false => .ok (.sh (.bl false)) s2
    | _ => .no)
  | none => .no := (rfl)
def FR.toR (r : FR) (env : List (Option Vl)) : R Vl := match r with
  | .ok v om => .ok v ⟨env, om⟩
  | .ex x om => .ex x ⟨env, om⟩
  | .no => .no
@[simp] theorem toR_ok (v : Vl) (om : List Cell) (env : List (Option Vl)) : (FR.ok v om).toR env = .ok v ⟨env, om⟩ := (rfl)
@[simp] theorem toR_ex (x : Xc) (om : List Cell) (env : List (Option Vl)) : (FR.ex x om).toR env = .ex x ⟨env, om⟩ := (rfl)
@[simp] theorem toR_no (env : List (Option Vl)) : (FR.no).toR env = .no := (rfl)
@[simp] theorem x_call : eCall F l st = (l st).bind fun ds s1 => (F ds s1.om).toR s1.env := by
  unfold eCall
  congr 1
@[simp] theorem x_b : eB fa l st = (l st).bind fun ds s1 => match fa ds with
  | some v => .ok v s1
  | none => .no := (rfl)
@[simp] theorem x_isa (ty : Ty) : eIsA a ty st = (a st).bind fun x s1 => match x.d.isA s1.om ty with
  | some b => .ok (.sh (.bl b)) s1
  | none => .no := (rfl)
@[simp] theorem x_iseq : iSeq e st = (e st).bind fun x s1 => match x.d with
  | .lst xs => .ok xs s1
  | _ => .no := (rfl)
@[simp] theorem x_itup : iTup e st = (e st).bind fun x s1 => match x.d with
  | .tup xs => .ok xs s1
  | _ => .no := (rfl)
@[simp] theorem x_iany : iAny e st = (e st).bind fun x s1 => match x.d with
  | .lst xs => .ok xs s1
  | .tup xs => .ok xs s1
  | _ => .no := (rfl)
@[simp] theorem x_range1 : iRange1 l st = (l st).bind fun ds s1 => match ds with
  | [.int j] => if -far ≤ j ∧ j < far then .ok (rangeD 0 j.toNat) s1 else .no
  | _ => .no := (rfl)
@[simp] theorem x_range2 : iRange2 l st = (l st).bind fun ds s1 => match ds with
  | [.int i, .int j] => if (-far ≤ i ∧ i < far) ∧ -far ≤ j ∧ j < far then .ok (rangeD i (j - i).toNat) s1 else .no
  | _ => .no := (rfl)
@[simp] theorem x_zip : iZip l st = (l st).bind fun ds s1 => match ds with
  | [.lst xs, .lst ys] => .ok ((xs.zip ys).map fun p => D.tup [p.1, p.2]) s1
  | _ => .no := (rfl)
@[simp] theorem x_gnm : gNm i d st = if i < st.env.length then some { st with env := st.env.set i (some (.sh d)) } else none := (rfl)
@[simp] theorem x_gnone : gNone [] st = some st := (rfl)
@[simp] theorem x_gmore (ds : List D) : gMore g gs (d :: ds) st = (g d st).bind fun s1 => gs ds s1 := (rfl)
@[simp] theorem x_gtp (ds : List D) : gTp gs (.tup ds) st = gs ds st := (rfl)
@[simp] theorem x_yes : tYes st = .ok true st := (rfl)
@[simp] theorem x_comp (vs : List Nat) : eComp it g t e vs st = (it st).bind fun xs s1 =>
  if calmSlots s1.env vs = true then (match compGo g t e vs xs [] { s1 with env := wipeEnv s1.env vs } with
    | .ok ys s2 => .ok (.ow ys) { s2 with env := restore s1.env s2.env vs }
    | _ => .no) else .no := (rfl)
@[simp] theorem x_pass : sPass st = .nx st := (rfl)
@[simp] theorem x_seq : sSeq p q st = (p st).seq q := (rfl)
@[simp] theorem x_set : sSet i e st = (e st).thenS fun v s1 => if i < s1.env.length then .nx { s1 with env := s1.env.set i (some v) } else .no := (rfl)
@[simp] theorem x_get : sGet g e st = (e st).thenS fun v s1 => match g v.d s1 with
  | some s2 => .nx s2
  | none => .no := (rfl)
@[simp] theorem x_vals0 : eVals [] st = .ok [] st := (rfl)
@[simp] theorem x_vals (es : List EvE) : eVals (e :: es) st = (e st).bind fun v s1 => (eVals es s1).bind fun vs s2 => .ok (v :: vs) s2 := (rfl)
@[simp] theorem x_par (is : List Nat) (es : List EvE) : sPar is es st = (eVals es st).thenS fun vs s1 =>
  if is.all (fun i => decide (i < s1.env.length)) = true then .nx { s1 with env := setAll s1.env is vs } else .no := (rfl)
@[simp] theorem x_ret : sRet e st = (e st).thenS fun v s1 => .rt v s1 := (rfl)
@[simp] theorem x_retN : sRetN st = .rt (.sh .non) st := (rfl)
@[simp] theorem x_sif : sIf t p q st = (t st).thenS fun c s1 => if c = true then p s1 else q s1 := (rfl)
@[simp] theorem x_drop : sDrop e st = (e st).thenS fun _ s1 => .nx s1 := (rfl)
@[simp] theorem x_break : sBreak st = .bk st := (rfl)
@[simp] theorem x_cont : sCont st = .ct st := (rfl)
@[simp] theorem x_app : sApp i e st = match st.env[i]? with
  | some (some (.ow _)) => (e st).thenS fun v s1 => (match s1.env[i]? with
    | some (some (.ow xs)) => if xs.length < many then .nx { s1 with env := s1.env.set i (some (.ow (xs ++ [v.d]))) } else .no
    | _ => .no)
  | _ => .no := (rfl)
@[simp] theorem x_appC : sAppC a e st = (a st).thenS fun x s1 => match x.d with
  | .cell n => (match s1.om[n]? with
    | some (.lst _) => (e s1).thenS fun v s2 => (match s2.om[n]? with
      | some (.lst xs) => if xs.length < many then .nx { s2 with om := s2.om.set n (.lst (xs ++ [v.d])) } else .no
      | _ => .no)
    | _ => .no)
  | _ => .no := (rfl)
@[simp] theorem x_dput : sDPut a b e st = (e st).thenS fun v s1 => (a s1).thenS fun x s2 => (b s2).thenS fun y s3 => match x.d, y.d.ky? with
  | .cell n, some k => (match s3.om[n]? with
    | some (.dK kvs) => if kvs.length < many then .nx { s3 with om := s3.om.set n (.dK (kvPut kvs k v.d)) } else .no
    | _ => .no)
  | _, _ => .no := (rfl)
@[simp] theorem x_for : sFor it g p st = (it st).thenS fun xs s1 => forGo g p xs s1 := (rfl)
@[simp] theorem x_forNil : forGo g p [] st = .nx st := (rfl)
theorem x_forCons (x : D) (xs : List D) : forGo g p (x :: xs) st = match g x st with
    | none => .no
    | some s1 => (match p s1 with
      | .nx s2 => forGo g p xs s2
      | .ct s2 => forGo g p xs s2
      | .bk s2 => .nx s2
      | .rt v s2 => .rt v s2
      | .ex x s2 => .ex x s2
      | .no => .no) := (rfl)
@[simp] theorem x_while (n : Nat) : sWhile n t p st = whileGo t p n st := (rfl)
theorem x_whileS (n : Nat) : whileGo t p (n + 1) st = (t st).thenS fun c s1 => if c = true then (match p s1 with
      | .nx s2 => whileGo t p n s2
      | .ct s2 => whileGo t p n s2
      | .bk s2 => .nx s2
      | .rt v s2 => .rt v s2
      | .ex x s2 => .ex x s2
      | .no => .no) else .nx s1 := (rfl)
@[simp] theorem x_compNil (vs : List Nat) (acc : List D) : compGo g t e vs [] acc st = .ok acc st := (rfl)
theorem x_compCons (vs : List Nat) (x : D) (xs acc : List D) : compGo g t e vs (x :: xs) acc st = match g x st with
    | none => .no
    | some s1 => (t s1).bind fun b s2 => if b = true then (e s2).bind fun y s3 => (if acc.length < many then compGo g t e vs xs (acc ++ [y.d]) { s3 with env := wipeEnv s3.env vs } else .no)
      else compGo g t e vs xs acc { s2 with env := wipeEnv s2.env vs } := (rfl)
end
def O.toF (o : O) : FR := match o with
  | .nx st => .ok (.sh .non) st.om
  | .rt v st => .ok v st.om
  | .ex x st => .ex x st.om
  | _ => .no
@[simp] theorem toF_nx (st : St) : (O.nx st).toF = .ok (.sh .non) st.om := (rfl)
@[simp] theorem toF_rt (v : Vl) (st : St) : (O.rt v st).toF = .ok v st.om := (rfl)
@[simp] theorem toF_ex (x : Xc) (st : St) : (O.ex x st).toF = .ex x st.om := (rfl)
@[simp] theorem x_run (n : Nat) (b : EvS) (ds : List D) (om : List Cell) : runDef n b ds om = (b { env := (ds.map fun d => some (Vl.sh d)) ++ List.replicate (n - ds.length) none, om := om }).toF := (rfl)
section
variable {α β : Type} (a : α) (st : St) (x : Xc) (v : Vl)
@[simp] theorem r_ok (f : α → St → R β) : (R.ok a st).bind f = f a st := (rfl)
@[simp] theorem r_ex (f : α → St → R β) : (R.ex x st : R α).bind f = .ex x st := (rfl)
@[simp] theorem r_no (f : α → St → R β) : (R.no : R α).bind f = .no := (rfl)
@[simp] theorem t_ok (f : α → St → O) : (R.ok a st).thenS f = f a st := (rfl)
@[simp] theorem t_ex (f : α → St → O) : (R.ex x st : R α).thenS f = .ex x st := (rfl)
@[simp] theorem t_no (f : α → St → O) : (R.no : R α).thenS f = .no := (rfl)
@[simp] theorem o_nx (f : St → O) : (O.nx st).seq f = f st := (rfl)
@[simp] theorem o_rt (f : St → O) : (O.rt v st).seq f = .rt v st := (rfl)
@[simp] theorem o_bk (f : St → O) : (O.bk st).seq f = .bk st := (rfl)
@[simp] theorem o_ct (f : St → O) : (O.ct st).seq f = .ct st := (rfl)
@[simp] theorem o_ex (f : St → O) : (O.ex x st).seq f = .ex x st := (rfl)
@[simp] theorem o_no (f : St → O) : (O.no).seq f = .no := (rfl)
end
@[simp] theorem d_sh (d : D) : (Vl.sh d).d = d := (rfl)
@[simp] theorem d_ow (xs : List D) : (Vl.ow xs).d = .lst xs := (rfl)
@[simp] theorem ky_int (i : Int) : (D.int i).ky? = some (.inl i) := (rfl)
@[simp] theorem ky_str (x : Str) : (D.str x).ky? = some (.inr x) := (rfl)
section
variable (i j : Int) (x y : D) (om : List Cell)
@[simp] theorem v_add : oAdd (.int i) (.int j) = some (.sh (.int (i + j))) := (rfl)
@[simp] theorem v_sub : oSub (.int i) (.int j) = some (.sh (.int (i - j))) := (rfl)
theorem wordOk_r {i j : Int} (h : j.natAbs < 2 ^ 64) : wordOk i j = true := by simp [wordOk, h]
theorem wordOk_l {i j : Int} (h : i.natAbs < 2 ^ 64) : wordOk i j = true := by simp [wordOk, h]
theorem log2_lt {n k : Nat} (h : n < 2 ^ k) (h0 : 0 < k) : n.log2 < k := by
  by_cases e : n = 0
  · rw [e, Nat.log2_zero]; exact h0
  · exact (Nat.log2_lt e).mpr h
theorem wordOk_b {i j : Int} (a b : Nat) (ha : i.natAbs < 2 ^ a) (hb : j.natAbs < 2 ^ b) (h0 : 0 < a) (h1 : 0 < b) (h : a + b ≤ 1000000) : wordOk i j = true := by
  have h2 := log2_lt ha h0
  have h3 := log2_lt hb h1
  have : i.natAbs.log2 + j.natAbs.log2 < 1000000 := by omega
  simp [wordOk, this]
theorem v_mul {i j : Int} (h : wordOk i j = true) : oMul (.int i) (.int j) = some (.sh (.int (i * j))) := if_pos h
@[simp] theorem v_mul_r {i j : Int} (h : j.natAbs < 2 ^ 64) : oMul (.int i) (.int j) = some (.sh (.int (i * j))) := v_mul (wordOk_r h)
@[simp] theorem v_mul_l {i j : Int} (h : i.natAbs < 2 ^ 64) : oMul (.int i) (.int j) = some (.sh (.int (i * j))) := v_mul (wordOk_l h)
theorem v_div {i j : Int} (h : 0 < j) (h1 : j.natAbs < 2 ^ 9000) : oDiv (.int i) (.int j) = some (.sh (.int (i / j))) := if_pos ⟨h, log2_lt h1 (by decide)⟩
theorem pow9000 {n k : Nat} (h : n < 2 ^ k) (hk : k ≤ 9000 := by decide) : n < 2 ^ 9000 := Nat.lt_of_lt_of_le h (Nat.pow_le_pow_right (by decide) hk)
@[simp] theorem v_div_s {i j : Int} (h : 0 < j) (h1 : j.natAbs < 2 ^ 64) : oDiv (.int i) (.int j) = some (.sh (.int (i / j))) := v_div h (pow9000 h1)
@[simp] theorem v_mod {i j : Int} (h : 0 < j) : oMod (.int i) (.int j) = some (.sh (.int (i % j))) := by
  unfold oMod
  simp only [show j ≠ 0 by omega, if_false, Int.fmod_eq_emod_of_nonneg i (show 0 ≤ j by omega)]
theorem v_pow {i j : Int} (h : 0 ≤ j) (h1 : j ≤ 1000) (h2 : i.natAbs < 2 ^ 1000) : oPow (.int i) (.int j) = some (.sh (.int (i ^ j.toNat))) := if_pos ⟨h, h1, log2_lt h2 (by decide)⟩
theorem v_pow_s {i j : Int} (h : 0 ≤ j) (h1 : j ≤ 1000) (h2 : i.natAbs < 2 ^ 500) : oPow (.int i) (.int j) = some (.sh (.int (i ^ j.toNat))) := v_pow h h1 (Nat.lt_of_lt_of_le h2 (Nat.pow_le_pow_right (by decide) (by decide)))
theorem v_pow_n {i j : Int} (k : Nat) (hj : j = k) (h1 : k ≤ 1000) (h2 : i.natAbs.log2 < 1000) : oPow (.int i) (.int j) = some (.sh (.int (i ^ k))) := by
  subst hj
  exact if_pos ⟨by omega, by omega, h2⟩
@[simp] theorem v_pow10 (j : Nat) (h : j ≤ 1000) : oPow (.int 10) (.int j) = some (.sh (.int (10 ^ j))) := v_pow_n j rfl h (by decide)
@[simp] theorem v_pow10_18 : oPow (.int 10) (.int 18) = some (.sh (.int (10 ^ 18))) := v_pow10 18 (by decide)
@[simp] theorem v_pow10_30 : oPow (.int 10) (.int 30) = some (.sh (.int (10 ^ 30))) := v_pow10 30 (by decide)
@[simp] theorem v_pow10_60 : oPow (.int 10) (.int 60) = some (.sh (.int (10 ^ 60))) := v_pow10 60 (by decide)
@[simp] theorem v_pow60_4 : oPow (.int 1000000000000000000000000000000000000000000000000000000000000) (.int 4) = some (.sh (.int (10 ^ 240))) := (v_pow_n 4 rfl (by decide) (by decide)).trans (congrArg (fun k => some (Vl.sh (D.int k))) (by decide +kernel))
@[simp] theorem v_cat {xs ys : List D} (h : xs.length + ys.length ≤ 100000) : oAdd (.lst xs) (.lst ys) = some (.ow (xs ++ ys)) := if_pos h
@[simp] theorem v_rep {xs : List D} {k : Int} (h : xs.length * k.toNat ≤ 100000) (h1 : -1000000 ≤ k) (h2 : k ≤ 1000000) : oMul (.lst xs) (.int k) = some (.ow (List.replicate k.toNat xs).flatten) := if_pos ⟨h, h1, h2⟩
@[simp] theorem v_neg : oNeg (.int i) = some (.sh (.int (-i))) := (rfl)
@[simp] theorem v_lt : oLt (.int i) (.int j) = some (.sh (.bl (decide (i < j)))) := (rfl)
@[simp] theorem v_le : oLe (.int i) (.int j) = some (.sh (.bl (decide (i ≤ j)))) := (rfl)
@[simp] theorem v_gt : oGt (.int i) (.int j) = some (.sh (.bl (decide (j < i)))) := (rfl)
@[simp] theorem v_ge : oGe (.int i) (.int j) = some (.sh (.bl (decide (j ≤ i)))) := (rfl)
@[simp] theorem v_isN : oIsN x = some (.sh (.bl x.isNon)) := (rfl)
@[simp] theorem v_notN : oNotN x = some (.sh (.bl (!x.isNon))) := (rfl)
@[simp] theorem n_non : D.non.isNon = true := (rfl)
@[simp] theorem n_int : (D.int i).isNon = false := (rfl)
@[simp] theorem n_bl (b : Bool) : (D.bl b).isNon = false := (rfl)
@[simp] theorem n_str (b : Str) : (D.str b).isNon = false := (rfl)
@[simp] theorem n_lst (b : List D) : (D.lst b).isNon = false := (rfl)
@[simp] theorem n_tup (b : List D) : (D.tup b).isNon = false := (rfl)
theorem v_eq {x y : D} (h : x.fine deep = true) (h1 : y.fine deep = true) : oEq x y = some (.sh (.bl (x.eq y))) := by simp [oEq, h, h1]
theorem v_ne {x y : D} (h : x.fine deep = true) (h1 : y.fine deep = true) : oNe x y = some (.sh (.bl (!x.eq y))) := by simp [oNe, h, h1]
@[simp] theorem fine_int (n : Nat) : (D.int i).fine n = true := by cases n <;> rfl
@[simp] theorem fine_bl (b : Bool) (n : Nat) : (D.bl b).fine n = true := by cases n <;> rfl
@[simp] theorem fine_non (n : Nat) : D.non.fine n = true := by cases n <;> rfl
@[simp] theorem fine_tup (xs : List D) (n : Nat) : (D.tup xs).fine (n + 1) = D.fines n xs := (rfl)
@[simp] theorem fine_lst (xs : List D) (n : Nat) : (D.lst xs).fine (n + 1) = D.fines n xs := (rfl)
@[simp] theorem fines_nil (n : Nat) : D.fines n [] = true := by cases n <;> rfl
@[simp] theorem fines_cons (xs : List D) (n : Nat) : D.fines n (x :: xs) = (D.fine n x && D.fines n xs) := by cases n <;> rfl
theorem fines_all {xs : List D} {n : Nat} (h : ∀ x ∈ xs, x.fine n = true) : D.fines n xs = true := by
  induction xs with
  | nil => simp
  | cons x xs ih => simp [h x (by simp), ih fun y hy => h y (by simp [hy])]
@[simp] theorem deep_s : deep = 19 + 1 := (rfl)
@[simp] theorem v_eqi : oEq (.int i) (.int j) = some (.sh (.bl (i == j))) := (rfl)
@[simp] theorem v_nei : oNe (.int i) (.int j) = some (.sh (.bl (!(i == j)))) := (rfl)
@[simp] theorem eq_ii : (D.int i).eq (.int j) = (i == j) := (rfl)
@[simp] theorem eq_nn : D.non.eq .non = true := (rfl)
@[simp] theorem eq_tt (xs ys : List D) : (D.tup xs).eq (.tup ys) = D.eqs xs ys := (rfl)
@[simp] theorem eq_ll (xs ys : List D) : (D.lst xs).eq (.lst ys) = D.eqs xs ys := (rfl)
@[simp] theorem eqs_nn : D.eqs [] [] = true := (rfl)
@[simp] theorem eqs_cc (xs ys : List D) : D.eqs (x :: xs) (y :: ys) = (x.eq y && D.eqs xs ys) := (rfl)
@[simp] theorem eq_nt (xs : List D) : D.non.eq (.tup xs) = false := (rfl)
@[simp] theorem eq_tn (xs : List D) : (D.tup xs).eq .non = false := (rfl)
mutual
theorem eq_rfl : ∀ (n : Nat) (x : D), x.fine n = true → x.eq x = true
  | _, .non, _ => rfl
  | _, .bl b, _ => by simp [D.eq]
  | _, .int i, _ => by simp
  | _, .str s, _ => by simp [D.eq]
  | 0, .lst xs, h => by simp [D.fine] at h
  | 0, .tup xs, h => by simp [D.fine] at h
  | 0, .scr xs, h => by simp [D.fine] at h
  | 0, .cell xs, h => by simp [D.fine] at h
  | n + 1, .lst xs, h => by simpa using eqs_rfl n xs (by simpa using h)
  | n + 1, .tup xs, h => by simpa using eqs_rfl n xs (by simpa using h)
  | n + 1, .scr xs, h => by simp [D.fine] at h
  | n + 1, .cell xs, h => by simp [D.fine] at h
theorem eqs_rfl : ∀ (n : Nat) (xs : List D), D.fines n xs = true → D.eqs xs xs = true
  | _, [], _ => rfl
  | n, x :: xs, h => by
    have h' : x.fine n = true ∧ D.fines n xs = true := by simpa using h
    simp [eq_rfl n x h'.1, eqs_rfl n xs h'.2]
end
/-! subscripts, built-ins, truth -/
@[simp] theorem ix_lst (xs : List D) : oIx (.lst xs) (.int i) = (atIx xs i).map .sh := (rfl)
@[simp] theorem ix_tup (xs : List D) : oIx (.tup xs) (.int i) = (atIx xs i).map .sh := (rfl)
@[simp] theorem ix_scr (xs : List Int) : oIx (.scr xs) (.int i) = (atIx xs i).map fun k => .sh (.int k) := (rfl)
theorem at_pos {α : Type} {xs : List α} {i : Int} (h : 0 ≤ i) (h1 : i < xs.length) : atIx xs i = some (xs[i.toNat]'(by omega)) := by
  unfold atIx ixNat
  simp [h, h1]
@[simp] theorem at_0 {α : Type} (x : α) (xs : List α) : atIx (x :: xs) 0 = some x := by
  rw [at_pos (by decide) (by simp)]; rfl
@[simp] theorem at_1 {α : Type} (x y : α) (xs : List α) : atIx (x :: y :: xs) 1 = some y := by
  rw [at_pos (by decide) (by simp; omega)]; rfl
@[simp] theorem at_2 {α : Type} (x y z : α) (xs : List α) : atIx (x :: y :: z :: xs) 2 = some z := by
  rw [at_pos (by decide) (by simp; omega)]; rfl
@[simp] theorem bi_len : bLen [x] = oLen x := (rfl)
@[simp] theorem len_lst (xs : List D) : oLen (.lst xs) = some (.sh (.int xs.length)) := (rfl)
@[simp] theorem len_tup (xs : List D) : oLen (.tup xs) = some (.sh (.int xs.length)) := (rfl)
@[simp] theorem len_scr (xs : List Int) : oLen (.scr xs) = some (.sh (.int xs.length)) := (rfl)
@[simp] theorem bi_abs : bAbs [.int i] = some (.sh (.int (i.natAbs : Int))) := by
  unfold bAbs
  simp only [Option.some.injEq, Vl.sh.injEq, D.int.injEq]
  split <;> omega
@[simp] theorem bi_min : bMin [.int i, .int j] = some (.sh (.int (min i j))) := by
  unfold bMin
  simp only [Option.some.injEq, Vl.sh.injEq, D.int.injEq]
  split <;> omega
@[simp] theorem bi_max : bMax [.int i, .int j] = some (.sh (.int (max i j))) := by
  unfold bMax
  simp only [Option.some.injEq, Vl.sh.injEq, D.int.injEq]
  split <;> omega
@[simp] theorem bi_int : bInt [.int i] = some (.sh (.int i)) := (rfl)
@[simp] theorem b_list_l (xs : List D) : bList [.lst xs] = some (.ow xs) := (rfl)
@[simp] theorem b_list_t (xs : List D) : bList [.tup xs] = some (.ow xs) := (rfl)
@[simp] theorem b_tuple_l (xs : List D) : bTuple [.lst xs] = some (.sh (.tup xs)) := (rfl)
@[simp] theorem b_tuple_t (xs : List D) : bTuple [.tup xs] = some (.sh (.tup xs)) := (rfl)
@[simp] theorem b_bls (bs : List Bool) : D.bls (bs.map D.bl) = some bs := by
  induction bs with
  | nil => rfl
  | cons b bs ih => simp [D.bls, ih]
@[simp] theorem bi_all (bs : List Bool) : bAll [.lst (bs.map D.bl)] = some (.sh (.bl (bs.all id))) := by simp [bAll]
@[simp] theorem bi_any (bs : List Bool) : bAny [.lst (bs.map D.bl)] = some (.sh (.bl (bs.any id))) := by simp [bAny]
@[simp] theorem tr_non : D.non.tru om = some false := (rfl)
@[simp] theorem tr_bl (b : Bool) : (D.bl b).tru om = some b := (rfl)
@[simp] theorem tr_int : (D.int i).tru om = some (i != 0) := (rfl)
@[simp] theorem tr_lst (xs : List D) : (D.lst xs).tru om = some (!xs.isEmpty) := (rfl)
@[simp] theorem tr_tup (xs : List D) : (D.tup xs).tru om = some (!xs.isEmpty) := (rfl)
@[simp] theorem tr_cell (n : Nat) : (D.cell n).tru om = match om[n]? with
    | some (.lst xs) => some (!xs.isEmpty)
    | some (.dK kvs) => some (!kvs.isEmpty)
    | none => none := (rfl)
end
theorem kvGet_def (kvs : List (Ky × D)) (k : Ky) : kvGet kvs k = (kvs.find? fun kv => decide (kv.1 = k)).map (·.2) := (rfl)
theorem kvPut_def (kvs : List (Ky × D)) (k : Ky) (d : D) : kvPut kvs k d =
  if (kvs.any fun kv => decide (kv.1 = k)) = true then kvs.map (fun kv => if kv.1 = k then (kv.1, d) else kv) else kvs ++ [(k, d)] := (rfl)
@[simp] theorem many_n : many = 100000 := by decide +kernel
@[simp] theorem far_n : far = 4000000000000000000 := by decide +kernel
@[simp] theorem w_nil (env : List (Option Vl)) : wipeEnv env [] = env := (rfl)
@[simp] theorem w_cons (env : List (Option Vl)) (v : Nat) (vs : List Nat) : wipeEnv env (v :: vs) = (wipeEnv env vs).set v none := (rfl)
@[simp] theorem rs_nil (env env' : List (Option Vl)) : restore env env' [] = env' := (rfl)
@[simp] theorem rs_cons (env env' : List (Option Vl)) (v : Nat) (vs : List Nat) : restore env env' (v :: vs) = (restore env env' vs).set v (env[v]?.getD none) := (rfl)
@[simp] theorem calm_def (env : List (Option Vl)) (vs : List Nat) : calmSlots env vs = vs.all fun v => match env[v]? with
  | some (some (.ow _)) => false
  | some _ => true
  | none => false := (rfl)
@[simp] theorem setAll_nil (env : List (Option Vl)) (vs : List Vl) : setAll env [] vs = env := by cases vs <;> rfl
@[simp] theorem setAll_cons (env : List (Option Vl)) (i : Nat) (is : List Nat) (v : Vl) (vs : List Vl) : setAll env (i :: is) (v :: vs) = setAll (env.set i (some v)) is vs := (rfl)
/-! isinstance -/
section
variable (om : List Cell) (i : Int) (b : Bool) (x : Str) (xs : List D)
@[simp] theorem isa_int_int : (D.int i).isA om .int = some true := (rfl)
@[simp] theorem isa_int_bool : (D.int i).isA om .bool = some false := (rfl)
@[simp] theorem isa_int_tuple : (D.int i).isA om .tuple = some false := (rfl)
@[simp] theorem isa_int_list : (D.int i).isA om .list = some false := (rfl)
@[simp] theorem isa_tup_tuple : (D.tup xs).isA om .tuple = some true := (rfl)
@[simp] theorem isa_non (t : Ty) : D.non.isA om t = some false := (rfl)
@[simp] theorem isa_bl_bool : (D.bl b).isA om .bool = some true := (rfl)
end
end Mini

set_option linter.all false
set_option maxRecDepth 100000
/-! PyLaw: the laws' own source of draws. -/
namespace Mini.Lib
open Mini PySem
def F_law_source : Fn := runDef 8
  (sSeq (sPar [3, 4, 5] [(eLstC aNil), (eOp oAdd (eInt 12345) (eVar 1)), (eB bMin (aCons (eB bLen (aCons (eVar 0) aNil)) (aCons (eInt 63) aNil)))]) (sSeq (sFor (iRange1 (aCons (eVar 5) aNil)) (gNm 2) (sSeq (sSet 6 (eB bInt (aCons (eOp oIx (eVar 0) (eOp oMod (eOp oAdd (eVar 1) (eVar 2)) (eVar 5))) aNil))) (sSeq (sSet 7 (eB bAbs (aCons (eVar 6) aNil))) (sSeq (sSet 4 (eOp oMod (eB bInt (aCons (eOp oAdd (eOp oAdd (eOp oAdd (eOp oMul (eVar 4) (eInt 16807)) (eOp oMod (eVar 7) (eInt 998244353))) (eVar 2)) (eIf (tBl (eOp oLt (eVar 6) (eInt 0))) (eInt 2) (eInt 1))) aNil)) (eInt 2147483647))) (sIf (tBl (eOp oGe (eVar 7) (eOp oPow (eInt 10) (eInt 18)))) (sAppC (eVar 3) (eOp oMod (eVar 7) (eOp oPow (eOp oPow (eInt 10) (eInt 60)) (eInt 4)))) sPass))))) (sRet (eDisp ["left", "now", "seed", "turn"] (aCons (eVar 3) (aCons (eInt 0) (aCons (eVar 4) (aCons (eInt 0) aNil))))))))
def F_law_pick : Fn := runDef 3
  (sSeq (sIf (tBl (eOp oLt (eVar 1) (eInt 2))) (sRet (eInt 0)) sPass) (sSeq (sWhile fuel (tAnd (tBl (eOp oLt (eDGet (eVar 0) (eStr "now")) (eInt 2))) (tTru (eDGet (eVar 0) (eStr "left")))) (sDPut (eVar 0) (eStr "now") (ePopC (eDGet (eVar 0) (eStr "left")) (eInt 0)))) (sSeq (sIf (tBl (eOp oGt (eDGet (eVar 0) (eStr "now")) (eInt 1))) (sSeq (sSet 2 (eOp oMod (eB bInt (aCons (eDGet (eVar 0) (eStr "now")) aNil)) (eVar 1))) (sSeq (sDPut (eVar 0) (eStr "now") (eOp oDiv (eDGet (eVar 0) (eStr "now")) (eVar 1))) (sRet (eOwn 2)))) sPass) (sSeq (sDPut (eVar 0) (eStr "turn") (eOp oAdd (eDGet (eVar 0) (eStr "turn")) (eInt 1))) (sSeq (sDPut (eVar 0) (eStr "seed") (eOp oMod (eB bInt (aCons (eOp oAdd (eOp oAdd (eOp oMul (eDGet (eVar 0) (eStr "seed")) (eInt 48271)) (eOp oMul (eDGet (eVar 0) (eStr "turn")) (eInt 7919))) (eInt 13)) aNil)) (eInt 2147483647))) (sRet (eOp oMod (eB bInt (aCons (eOp oAdd (eOp oDiv (eDGet (eVar 0) (eStr "seed")) (eInt 127)) (eOp oDiv (eOp oMul (eDGet (eVar 0) (eStr "seed")) (eInt 31)) (eInt 8191))) aNil)) (eVar 1))))))))
def F_law_within : Fn := runDef 3
  (sRet (eOp oAdd (eVar 1) (eCall F_law_pick (aCons (eVar 0) (aCons (eOp oAdd (eOp oSub (eVar 2) (eVar 1)) (eInt 1)) aNil)))))
def F_law_one : Fn := runDef 2
  (sRet (eOp oIx (eVar 1) (eCall F_law_pick (aCons (eVar 0) (aCons (eB bLen (aCons (eVar 1) aNil)) aNil)))))
def F_law_shuffled : Fn := runDef 5
  (sSeq (sPar [3, 4] [(eB bList (aCons (eVar 1) aNil)), (eLst aNil)]) (sSeq (sFor (iRange1 (aCons (eB bLen (aCons (eVar 1) aNil)) aNil)) (gNm 2) (sApp 4 (ePopV 3 (eCall F_law_pick (aCons (eVar 0) (aCons (eLenV 3) aNil)))))) (sRet (eOwn 4))))
/-- the source's dict -/
def srcD (n s t : Int) : List (Ky × D) := [(.inr "left", .cell 0), (.inr "now", .int n), (.inr "seed", .int s), (.inr "turn", .int t)]
def srcM (l : List Int) (n s t : Int) (rest : List Cell) : List Cell := .lst (l.map .int) :: .dK (srcD n s t) :: rest
/-- the store: the source's list and dict, then the rest -/
def Src (om rest : List Cell) : Prop := ∃ l n s t, om = srcM l n s t rest ∧ l.length ≤ 63
section
variable (n s t x : Int)
@[simp] theorem g_left : kvGet (srcD n s t) (.inr "left") = some (.cell 0) := rfl
@[simp] theorem g_now : kvGet (srcD n s t) (.inr "now") = some (.int n) := rfl
@[simp] theorem g_seed : kvGet (srcD n s t) (.inr "seed") = some (.int s) := rfl
@[simp] theorem g_turn : kvGet (srcD n s t) (.inr "turn") = some (.int t) := rfl
@[simp] theorem p_now : kvPut (srcD n s t) (.inr "now") (.int x) = srcD x s t := rfl
@[simp] theorem p_seed : kvPut (srcD n s t) (.inr "seed") (.int x) = srcD n x t := rfl
@[simp] theorem p_turn : kvPut (srcD n s t) (.inr "turn") (.int x) = srcD n s x := rfl
@[simp] theorem srcD_len : (srcD n s t).length = 4 := rfl
variable (l : List Int) (rest : List Cell)
@[simp] theorem m_0 : (srcM l n s t rest)[0]? = some (.lst (l.map .int)) := rfl
@[simp] theorem m_1 : (srcM l n s t rest)[1]? = some (.dK (srcD n s t)) := rfl
@[simp] theorem st_0 (l' : List Int) : (srcM l n s t rest).set 0 (.lst (l'.map .int)) = srcM l' n s t rest := rfl
@[simp] theorem st_1 (n' s' t' : Int) : (srcM l n s t rest).set 1 (.dK (srcD n' s' t')) = srcM l n' s' t' rest := rfl
end
theorem fuel_63 : 63 < fuel := by decide +kernel
theorem rangeD_succ (lo : Int) (n : Nat) : rangeD lo (n + 1) = .int lo :: rangeD (lo + 1) n := by
  unfold rangeD
  rw [List.range_succ_eq_map, List.map_cons, List.map_map]
  simp only [Int.natCast_zero, Int.add_zero, List.cons.injEq, true_and]
  refine List.map_congr_left fun k _ => ?_
  simp only [Function.comp, D.int.injEq]
  omega
theorem pick_while (env : List (Option Vl)) (h0 : env[0]? = some (some (.sh (.cell 1)))) (s t : Int) (rest : List Cell) : ∀ (k : Nat) (l : List Int) (n : Int), l.length < k →
    ∃ l' n', l'.length ≤ l.length ∧ whileGo (tAnd (tBl (eOp oLt (eDGet (eVar 0) (eStr "now")) (eInt 2))) (tTru (eDGet (eVar 0) (eStr "left")))) (sDPut (eVar 0) (eStr "now") (ePopC (eDGet (eVar 0) (eStr "left")) (eInt 0))) k ⟨env, srcM l n s t rest⟩ = .nx ⟨env, srcM l' n' s t rest⟩ := by
  intro k
  induction k with
  | zero => intro l n h; omega
  | succ k ih =>
    intro l n h
    rw [x_whileS]
    by_cases hn : n < 2
    · cases l with
      | nil => exact ⟨[], n, Nat.le_refl _, by simp [h0, hn]⟩
      | cons x l =>
        obtain ⟨l', n', hl, e⟩ := ih l x (by simpa using h)
        refine ⟨l', n', by simp; omega, ?_⟩
        rw [← e]
        have : List.eraseIdx (List.map D.int (x :: l)) 0 = List.map D.int l := rfl
        simp [h0, hn]
    · exact ⟨l, n, Nat.le_refl _, by simp [h0, hn]⟩
theorem pick_ok {om rest : List Cell} (h : Src om rest) {m : Int} (hm : m.natAbs < 2 ^ 9000) : ∃ r om', F_law_pick [.cell 1, .int m] om = .ok (.sh (.int r)) om' ∧ Src om' rest ∧ 0 ≤ r ∧ (2 ≤ m → r < m) ∧ (m < 2 → r = 0) := by
  obtain ⟨l, n, s, t, rfl, hl⟩ := h
  by_cases h2 : m < 2
  · exact ⟨0, srcM l n s t rest, by simp [F_law_pick, h2], ⟨_, _, _, _, rfl, hl⟩, by omega, by omega, by omega⟩
  · have hp : 0 < m := by omega
    obtain ⟨l', n', hl', e⟩ := pick_while [some (.sh (.cell 1)), some (.sh (.int m)), none] rfl s t rest fuel l n (Nat.lt_of_le_of_lt hl fuel_63)
    by_cases h1 : 1 < n'
    · exact ⟨n' % m, srcM l' (n' / m) s t rest, by simp [F_law_pick, h2, e, h1, hp, v_div hp hm], ⟨_, _, _, _, rfl, by omega⟩, Int.emod_nonneg _ (by omega), fun _ => Int.emod_lt_of_pos _ hp, by omega⟩
    · exact ⟨_, srcM l' n' ((s * 48271 + (t + 1) * 7919 + 13) % 2147483647) (t + 1) rest, by simp [F_law_pick, h2, e, h1, hp]; rfl, ⟨_, _, _, _, rfl, by omega⟩, Int.emod_nonneg _ (by omega), fun _ => Int.emod_lt_of_pos _ hp, by omega⟩
theorem within_ok {om rest : List Cell} (h : Src om rest) {lo hi : Int} (hm : (hi - lo + 1).natAbs < 2 ^ 9000) (hle : lo ≤ hi) :
    ∃ r om', F_law_within [.cell 1, .int lo, .int hi] om = .ok (.sh (.int r)) om' ∧ Src om' rest ∧ lo ≤ r ∧ r ≤ hi := by
  obtain ⟨r, om', e, h', h0, h1, h2⟩ := pick_ok h hm
  exact ⟨lo + r, om', by simp [F_law_within, e], h', by omega, by omega⟩
theorem one_ok {om rest : List Cell} (h : Src om rest) {xs : List D} (hx : xs ≠ []) (hl : xs.length ≤ many) :
    ∃ d om', F_law_one [.cell 1, .lst xs] om = .ok (.sh d) om' ∧ Src om' rest ∧ d ∈ xs := by
  have hp : 0 < xs.length := List.length_pos_iff.mpr hx
  have hl : xs.length ≤ 100000 := hl
  obtain ⟨r, om', e, h', h0, h1, h2⟩ := pick_ok h (m := xs.length) (pow9000 (k := 20) (by omega))
  have hr : r < xs.length := by omega
  exact ⟨_, om', by simp [F_law_one, e, at_pos h0 hr]; rfl, h', List.getElem_mem _⟩
theorem perm_out : ∀ {α : Type} {xs : List α} {i : Nat} (h : i < xs.length), (xs[i] :: xs.eraseIdx i).Perm xs
  | _, x :: xs, 0, _ => .refl _
  | _, x :: xs, i + 1, h => (List.Perm.swap _ _ _).trans (.cons x (perm_out (xs := xs) (i := i) (by simpa using h)))
theorem shuf_go (d0 d1 : Option Vl) (rest : List Cell) (hd : d0 = some (.sh (.cell 1))) : ∀ (n : Nat) (lo : Int) (om : List Cell) (xs ys : List D) (d2 : Option Vl), Src om rest → xs.length = n → xs.length + ys.length ≤ many →
    ∃ zs om' d2', forGo (gNm 2) (sApp 4 (ePopV 3 (eCall F_law_pick (aCons (eVar 0) (aCons (eLenV 3) aNil))))) (rangeD lo n) ⟨[d0, d1, d2, some (.ow xs), some (.ow ys)], om⟩ = .nx ⟨[d0, d1, d2', some (.ow []), some (.ow zs)], om'⟩ ∧ Src om' rest ∧ zs.Perm (ys ++ xs) := by
  subst hd
  intro n
  induction n with
  | zero =>
    intro lo om xs ys d2 h hx hl
    obtain rfl := List.length_eq_zero_iff.mp hx
    exact ⟨ys, om, d2, rfl, h, by simp⟩
  | succ n ih =>
    intro lo om xs ys d2 h hx hl
    have hl : xs.length + ys.length ≤ 100000 := hl
    obtain ⟨r, om', e, h', h0, h1, h2⟩ := pick_ok h (m := xs.length) (pow9000 (k := 20) (by omega))
    have hr : r < xs.length := by omega
    have hr' : r.toNat < xs.length := by omega
    obtain ⟨zs, om2, d2', e2, h2', p⟩ := ih (lo + 1) om' (xs.eraseIdx r.toNat) (ys ++ [xs[r.toNat]]) (some (.sh (.int lo))) h' (by rw [List.length_eraseIdx, if_pos hr', hx]; rfl) (by rw [List.length_eraseIdx, if_pos hr', List.length_append]; simp only [List.length_cons, List.length_nil, many_n]; omega)
    refine ⟨zs, om2, d2', ?_, h2', ?_⟩
    · rw [← e2, rangeD_succ, x_forCons]
      simp only [hx, Int.natCast_succ] at e hr
      simp [e, h0, show r < 1000000 by omega, hr', hr, hx, show ys.length < 100000 by omega]
    · refine p.trans ?_
      rw [List.append_assoc]
      refine List.Perm.append_left _ ?_
      simpa using perm_out hr'
theorem shuf_ok {om rest : List Cell} (h : Src om rest) {xs : List D} (hl : xs.length ≤ many) :
    ∃ zs om', F_law_shuffled [.cell 1, .lst xs] om = .ok (.ow zs) om' ∧ Src om' rest ∧ zs.Perm xs := by
  obtain ⟨zs, om', d2, e, h', p⟩ := shuf_go (some (.sh (.cell 1))) (some (.sh (.lst xs))) rest rfl xs.length 0 om xs [] none h rfl (by simpa using hl)
  refine ⟨zs, om', ?_, h', by simpa using p⟩
  have hl : xs.length ≤ 100000 := hl
  simp [F_law_shuffled, e, show (xs.length : Int) < 4000000000000000000 by omega, show (-4000000000000000000 : Int) ≤ xs.length by omega]
theorem source_go (d1 : Option Vl) (ns : List Int) (hn : ns ≠ []) (hm : ns.length ≤ 63) (a : Int) (hd : d1 = some (.sh (.int a))) : ∀ (n : Nat) (lo : Int) (l : List Int) (s : Int) (d2 d6 d7 : Option Vl), l.length + n ≤ 63 → 
    ∃ (l' : List Int) (s' : Int) (d2' d6' d7' : Option Vl), l'.length ≤ 63 ∧ forGo (gNm 2) (sSeq (sSet 6 (eB bInt (aCons (eOp oIx (eVar 0) (eOp oMod (eOp oAdd (eVar 1) (eVar 2)) (eVar 5))) aNil))) (sSeq (sSet 7 (eB bAbs (aCons (eVar 6) aNil))) (sSeq (sSet 4 (eOp oMod (eB bInt (aCons (eOp oAdd (eOp oAdd (eOp oAdd (eOp oMul (eVar 4) (eInt 16807)) (eOp oMod (eVar 7) (eInt 998244353))) (eVar 2)) (eIf (tBl (eOp oLt (eVar 6) (eInt 0))) (eInt 2) (eInt 1))) aNil)) (eInt 2147483647))) (sIf (tBl (eOp oGe (eVar 7) (eOp oPow (eInt 10) (eInt 18)))) (sAppC (eVar 3) (eOp oMod (eVar 7) (eOp oPow (eOp oPow (eInt 10) (eInt 60)) (eInt 4)))) sPass)))) (rangeD lo n) ⟨[some (.sh (.scr ns)), d1, d2, some (.sh (.cell 0)), some (.sh (.int s)), some (.sh (.int ns.length)), d6, d7], [.lst (l.map .int)]⟩
      = .nx ⟨[some (.sh (.scr ns)), d1, d2', some (.sh (.cell 0)), some (.sh (.int s')), some (.sh (.int ns.length)), d6', d7'], [.lst (l'.map .int)]⟩ := by
  subst hd
  intro n
  induction n with
  | zero => intro lo l s d2 d6 d7 h; exact ⟨l, s, d2, d6, d7, by omega, rfl⟩
  | succ n ih =>
    intro lo l s d2 d6 d7 h
    have hp : 0 < ns.length := List.length_pos_iff.mpr hn
    have h0 : 0 ≤ (a + lo) % (ns.length : Int) := Int.emod_nonneg _ (by omega)
    have h1 : (a + lo) % (ns.length : Int) < ns.length := Int.emod_lt_of_pos _ (by omega)
    have p18 : (10 : Int) ^ 18 = 1000000000000000000 := by decide
    rw [rangeD_succ, x_forCons]
    obtain ⟨raw, hraw⟩ : ∃ raw, raw = ns[((a + lo) % (ns.length : Int)).toNat]'(by omega) := ⟨_, rfl⟩
    let s1 := (s * 16807 + ((raw.natAbs : Int) % 998244353) + lo + (if raw < 0 then 2 else 1)) % 2147483647
    by_cases hc : 1000000000000000000 ≤ (raw.natAbs : Int)
    · obtain ⟨l', s', d2', d6', d7', hl, e⟩ := ih (lo + 1) (l ++ [(raw.natAbs : Int) % 10 ^ 240]) s1 (some (.sh (.int lo))) (some (.sh (.int raw))) (some (.sh (.int raw.natAbs))) (by simp; omega)
      refine ⟨l', s', d2', d6', d7', hl, ?_⟩
      rw [← e]
      have hr : raw < 0 ∨ ¬ raw < 0 := by omega
      rcases hr with hr | hr <;> simp [at_pos h0 h1, hp, ← hraw, hc, hr, s1, show l.length < 100000 by omega]
    · obtain ⟨l', s', d2', d6', d7', hl, e⟩ := ih (lo + 1) l s1 (some (.sh (.int lo))) (some (.sh (.int raw))) (some (.sh (.int raw.natAbs))) (by omega)
      refine ⟨l', s', d2', d6', d7', hl, ?_⟩
      rw [← e]
      have hr : raw < 0 ∨ ¬ raw < 0 := by omega
      rcases hr with hr | hr <;> simp [at_pos h0 h1, hp, ← hraw, hc, hr, s1, show l.length < 100000 by omega]
theorem source_ok (ns : List Int) (hm : ns.length ≤ 63) (a : Int) : ∃ om, F_law_source [.scr ns, .int a] [] = .ok (.sh (.cell 1)) om ∧ Src om [] := by
  have hmin : min (ns.length : Int) 63 = ns.length := by omega
  by_cases hn : ns = []
  · subst hn
    exact ⟨srcM [] 0 (12345 + a) 0 [], by simp [F_law_source, rangeD]; rfl, _, _, _, _, rfl, by simp⟩
  · obtain ⟨l', s', d2, d6, d7, hl, e⟩ := source_go (some (.sh (.int a))) ns hn hm a rfl ns.length 0 [] (12345 + a) none none none (by simpa using hm)
    refine ⟨srcM l' 0 s' 0 [], ?_, _, _, _, _, rfl, hl⟩
    simp only [List.map_nil] at e
    simp [F_law_source, hmin, e, show (ns.length : Int) < 4000000000000000000 by omega, show (-4000000000000000000 : Int) ≤ ns.length by omega]
    rfl
theorem comp_filter (g : EvG) (t : EvT) (e : EvE) (vs : List Nat) (p : D → Bool) (v : D → D) (st : St) : ∀ (xs acc : List D), acc.length + xs.length ≤ many →
    (∀ x ∈ xs, ∃ s1 s2, g x st = some s1 ∧ t s1 = .ok (p x) s2 ∧ (p x = true → ∃ y s3, e s2 = .ok y s3 ∧ y.d = v x ∧ { s3 with env := wipeEnv s3.env vs } = st) ∧ { s2 with env := wipeEnv s2.env vs } = st) →
    compGo g t e vs xs acc st = .ok (acc ++ (xs.filter p).map v) st
  | [], acc, _, _ => by simp
  | x :: xs, acc, hl, h => by
    obtain ⟨s1, s2, e1, e2, e3, e4⟩ := h x (by simp)
    have hl' : acc.length + (xs.length + 1) ≤ 100000 := by simpa using hl
    rw [x_compCons, e1]
    simp only [e2, r_ok]
    cases hp : p x with
    | false =>
      simp only [Bool.false_eq_true, if_false, e4]
      rw [comp_filter g t e vs p v st xs acc (by simp only [many_n]; omega) fun y hy => h y (by simp [hy])]
      simp [hp]
    | true =>
      obtain ⟨y, s3, e5, e6, e7⟩ := e3 hp
      simp only [if_true, e5, r_ok, show acc.length < many by simp only [many_n]; omega, e6, e7]
      rw [comp_filter g t e vs p v st xs (acc ++ [v x]) (by simp only [many_n, List.length_append, List.length_cons, List.length_nil]; omega) fun y hy => h y (by simp [hy])]
      simp [hp]
theorem comp_map (g : EvG) (e : EvE) (vs : List Nat) (v : D → D) (st : St) (xs : List D) (hl : xs.length ≤ many)
    (h : ∀ x ∈ xs, ∃ s1 y s3, g x st = some s1 ∧ e s1 = .ok y s3 ∧ y.d = v x ∧ { s1 with env := wipeEnv s1.env vs } = st ∧ { s3 with env := wipeEnv s3.env vs } = st) :
    compGo g tYes e vs xs [] st = .ok (xs.map v) st := by
  rw [comp_filter g tYes e vs (fun _ => true) v st xs [] (by simpa using hl) fun x hx => ?_]
  · rw [List.filter_eq_self.mpr fun _ _ => rfl]; rfl
  · obtain ⟨s1, y, s3, e1, e2, e3, e4, e5⟩ := h x hx
    exact ⟨s1, s1, e1, rfl, fun _ => ⟨y, s3, e2, e3, e5⟩, e4⟩
/-- a loop that returns v at the first item that fails -/
theorem for_all {g : EvG} {b : EvS} {v : Vl} (I J : St → Prop) (p : D → Bool) : ∀ (xs : List D) (st : St), I st →
    (∀ x ∈ xs, ∀ st, I st → ∃ s1, g x st = some s1 ∧ (p x = true → ∃ s2, b s1 = .nx s2 ∧ I s2) ∧ (p x = false → ∃ s2, b s1 = .rt v s2 ∧ J s2)) →
    (xs.all p = true ∧ ∃ s', forGo g b xs st = .nx s' ∧ I s') ∨ (xs.all p = false ∧ ∃ s', forGo g b xs st = .rt v s' ∧ J s')
  | [], st, hI, _ => .inl ⟨rfl, st, rfl, hI⟩
  | x :: xs, st, hI, h => by
    obtain ⟨s1, e1, h1, h2⟩ := h x (by simp) st hI
    rw [x_forCons]
    cases hp : p x with
    | true =>
      obtain ⟨s2, e2, hI2⟩ := h1 hp
      simp only [e1, e2]
      rcases for_all I J p xs s2 hI2 fun y hy => h y (by simp [hy]) with ⟨a, s', e, i⟩ | ⟨a, s', e, i⟩
      · exact .inl ⟨by simp [hp, a], s', e, i⟩
      · exact .inr ⟨by simp [hp, a], s', e, i⟩
    | false =>
      obtain ⟨s2, e2, hJ⟩ := h2 hp
      simp only [e1, e2]
      exact .inr ⟨by simp [hp], s2, rfl, hJ⟩
/-- a loop with an invariant of what is left -/
theorem for_inv {g : EvG} {b : EvS} (I : List D → St → Prop) : ∀ (xs : List D) (st : St), I xs st →
    (∀ x xs st, I (x :: xs) st → ∃ s1 s2, g x st = some s1 ∧ (b s1 = .nx s2 ∨ b s1 = .ct s2) ∧ I xs s2) → ∃ s', forGo g b xs st = .nx s' ∧ I [] s'
  | [], st, hI, _ => ⟨st, rfl, hI⟩
  | x :: xs, st, hI, h => by
    obtain ⟨s1, s2, e1, e2, hI2⟩ := h x xs st hI
    rw [x_forCons]
    rcases e2 with e2 | e2
    · simp only [e1, e2]; exact for_inv I xs s2 hI2 h
    · simp only [e1, e2]; exact for_inv I xs s2 hI2 h
end Mini.Lib

set_option linter.all false
set_option maxRecDepth 100000
/-! M_k22: the defs of the text as the evaluator's terms (printed by gen.py). -/
namespace Mini.K22
open Mini PySem
/-- common(a, b) : slots a, b, one, other -/
def F_common : Fn := runDef 4
  (sSeq (sPar [2, 3] [(eB bAbs (aCons (eVar 0) aNil)), (eB bAbs (aCons (eVar 1) aNil))]) (sSeq (sWhile fuel (tTru (eVar 3)) (sPar [2, 3] [(eVar 3), (eOp oMod (eB bInt (aCons (eVar 2) aNil)) (eVar 3))])) (sRet (eOwn 2))))

/-- alike(a, b, grain) : slots a, b, grain -/
def F_alike : Fn := runDef 3
  (sSeq (sIf (tBl (eOp oEq (eVar 2) (eInt 0))) (sRet (eOp oEq (eVar 0) (eVar 1))) sPass) (sRet (eOp oEq (eOp oMod (eB bInt (aCons (eOp oSub (eVar 0) (eVar 1)) aNil)) (eVar 2)) (eInt 0))))

/-- inverse(number, grain) : slots number, grain, one, other, left, right, many -/
def F_inverse : Fn := runDef 7
  (sSeq (sPar [2, 3] [(eOp oMod (eB bInt (aCons (eVar 0) aNil)) (eVar 1)), (eVar 1)]) (sSeq (sGet (gTp (gMore (gNm 4) (gMore (gNm 5) gNone))) (eTup (aCons (eInt 1) (aCons (eInt 0) aNil)))) (sSeq (sWhile fuel (tTru (eVar 3)) (sSeq (sSet 6 (eOp oDiv (eVar 2) (eVar 3))) (sSeq (sPar [2, 3] [(eVar 3), (eOp oSub (eVar 2) (eOp oMul (eVar 6) (eVar 3)))]) (sPar [4, 5] [(eVar 5), (eOp oSub (eVar 4) (eOp oMul (eVar 6) (eVar 5)))])))) (sRet (eOp oMod (eB bInt (aCons (eVar 4) aNil)) (eVar 1))))))

/-- both(first, second) : slots first, second, shared, rest, steps, a, d, b, e -/
def F_both : Fn := runDef 9
  (sSeq (sGet (gTp (gMore (gNm 5) (gMore (gNm 6) gNone))) (eVar 0)) (sSeq (sGet (gTp (gMore (gNm 7) (gMore (gNm 8) gNone))) (eVar 1)) (sSeq (sIf (tBl (eOp oEq (eVar 6) (eInt 0))) (sRet (eIf (tTru (eCall F_alike (aCons (eVar 5) (aCons (eVar 7) (aCons (eVar 8) aNil))))) (eTup (aCons (eVar 5) (aCons (eInt 0) aNil))) (eC .non))) sPass) (sSeq (sIf (tBl (eOp oEq (eVar 8) (eInt 0))) (sRet (eIf (tTru (eCall F_alike (aCons (eVar 5) (aCons (eVar 7) (aCons (eVar 6) aNil))))) (eTup (aCons (eVar 7) (aCons (eInt 0) aNil))) (eC .non))) sPass) (sSeq (sSet 2 (eCall F_common (aCons (eVar 6) (aCons (eVar 8) aNil)))) (sSeq (sIf (tTru (eOp oMod (eB bInt (aCons (eOp oSub (eVar 7) (eVar 5)) aNil)) (eVar 2))) (sRet (eC .non)) sPass) (sSeq (sSet 3 (eOp oDiv (eVar 8) (eVar 2))) (sSeq (sSet 4 (eOp oMod (eB bInt (aCons (eOp oMul (eOp oDiv (eOp oSub (eVar 7) (eVar 5)) (eVar 2)) (eCall F_inverse (aCons (eOp oDiv (eVar 6) (eVar 2)) (aCons (eVar 3) aNil)))) aNil)) (eVar 3))) (sRet (eTup (aCons (eOp oMod (eB bInt (aCons (eOp oAdd (eVar 5) (eOp oMul (eVar 6) (eVar 4))) aNil)) (eOp oMul (eVar 6) (eVar 3))) (aCons (eOp oMul (eVar 6) (eVar 3)) aNil))))))))))))

/-- meet_numbers(rows) : slots rows, found, one -/
def F_meet_numbers : Fn := runDef 3
  (sSeq (sSet 1 (eTup (aCons (eInt 0) (aCons (eInt 1) aNil)))) (sSeq (sFor (iAny (eVar 0)) (gNm 2) (sSeq (sSet 1 (eCall F_both (aCons (eVar 1) (aCons (eTup (aCons (eOp oIx (eVar 2) (eInt 0)) (aCons (eOp oIx (eVar 2) (eInt 1)) aNil))) aNil)))) (sIf (tBl (eOp1 oIsN (eVar 1))) (sRet (eC .non)) sPass))) (sRet (eOwn 1))))

/-- _law_source(script, at), as PyLaw has it -/
abbrev F_law_source : Fn := Lib.F_law_source

/-- _law_pick(s, many), as PyLaw has it -/
abbrev F_law_pick : Fn := Lib.F_law_pick

/-- _law_within(s, low, high), as PyLaw has it -/
abbrev F_law_within : Fn := Lib.F_law_within

/-- _law_one(s, things), as PyLaw has it -/
abbrev F_law_one : Fn := Lib.F_law_one

/-- _law_shuffled(s, things), as PyLaw has it -/
abbrev F_law_shuffled : Fn := Lib.F_law_shuffled

/-- _law_same(answer, due) : slots answer, due, fits, key, one, other -/
def F_law_same : Fn := runDef 6
  (sSeq (sIf (tBl (eOp1 oIsN (eVar 1))) (sRet (eOp1 oIsN (eVar 0))) sPass) (sSeq (sIf (tTru (eIsA (eVar 1) .bool)) (sRet (eAnd (eIsA (eVar 0) .bool) (eOp oEq (eVar 0) (eVar 1)))) sPass) (sSeq (sIf (tTru (eIsA (eVar 1) .int)) (sRet (eAnd (eIsA (eVar 0) .int) (eAnd (eNot (eIsA (eVar 0) .bool)) (eOp oEq (eVar 0) (eVar 1))))) sPass) sNo)))

/-- _law_d_gcd(a, b) : slots a, b, turn, one, other -/
def F_law_d_gcd : Fn := runDef 5
  (sSeq (sPar [3, 4] [(eB bAbs (aCons (eVar 0) aNil)), (eB bAbs (aCons (eVar 1) aNil))]) (sSeq (sFor (iRange1 (aCons (eInt 2000) aNil)) (gNm 2) (sSeq (sIf (tBl (eOp oEq (eVar 4) (eInt 0))) sBreak sPass) (sPar [3, 4] [(eVar 4), (eOp oMod (eB bInt (aCons (eVar 3) aNil)) (eVar 4))]))) (sRet (eOwn 3))))

/-- _law_d_modulo(a, d) : slots a, d -/
def F_law_d_modulo : Fn := runDef 2
  (sRet (eIf (tTru (eVar 1)) (eOp oMod (eB bInt (aCons (eVar 0) aNil)) (eVar 1)) (eVar 0)))

/-- _law_d_conditions(s, most, far) : slots s, most, far, k, rows, hit, aimed, d, c -/
def F_law_d_conditions : Fn := runDef 9
  (sSeq (sPar [4, 5, 6] [(eLst aNil), (eCall F_law_within (aCons (eVar 0) (aCons (eOp1 oNeg (eVar 2)) (aCons (eVar 2) aNil)))), (eCall F_law_pick (aCons (eVar 0) (aCons (eInt 2) aNil)))]) (sSeq (sFor (iRange1 (aCons (eCall F_law_one (aCons (eVar 0) (aCons (eLst (aCons (eInt 0) (aCons (eInt 1) (aCons (eInt 2) (aCons (eInt 2) (aCons (eInt 3) (aCons (eInt 3) (aCons (eInt 4) (aCons (eInt 5) aNil))))))))) aNil))) aNil)) (gNm 3) (sSeq (sSet 7 (eCall F_law_one (aCons (eVar 0) (aCons (eOp oAdd (eLst (aCons (eInt 0) aNil)) (eOp oMul (eLst (aCons (eOp oAdd (eInt 1) (eCall F_law_pick (aCons (eVar 0) (aCons (eVar 1) aNil)))) aNil)) (eInt 6))) aNil)))) (sSeq (sSet 8 (eIf (tTru (eVar 6)) (eOp oAdd (eVar 5) (eOp oMul (eVar 7) (eCall F_law_within (aCons (eVar 0) (aCons (eOp1 oNeg (eInt 3)) (aCons (eInt 3) aNil)))))) (eCall F_law_within (aCons (eVar 0) (aCons (eOp1 oNeg (eVar 2)) (aCons (eVar 2) aNil)))))) (sApp 4 (eTup (aCons (eVar 8) (aCons (eVar 7) aNil))))))) (sRet (eOwn 4))))

/-- _law_d_allmeet(y, rows) : slots y, rows, c, d -/
def F_law_d_allmeet : Fn := runDef 4
  (sRet (eB bAll (aCons (eComp (iAny (eVar 1)) (gTp (gMore (gNm 2) (gMore (gNm 3) gNone))) tYes (eOp oEq (eCall F_law_d_modulo (aCons (eOp oSub (eVar 0) (eVar 2)) (aCons (eVar 3) aNil))) (eInt 0)) [2, 3]) aNil)))

/-- _law_d_fits(rows) : slots rows, c, d, e, g -/
def F_law_d_fits : Fn := runDef 5
  (sSeq (sFor (iAny (eVar 0)) (gTp (gMore (gNm 1) (gMore (gNm 2) gNone))) (sFor (iAny (eVar 0)) (gTp (gMore (gNm 3) (gMore (gNm 4) gNone))) (sIf (tBl (eOp oNe (eCall F_law_d_modulo (aCons (eOp oSub (eVar 1) (eVar 3)) (aCons (eCall F_law_d_gcd (aCons (eVar 2) (aCons (eVar 4) aNil))) aNil))) (eInt 0))) (sRet (eC (.bl false))) sPass))) (sRet (eC (.bl true))))

/-- _law_d_right(rows, told) : slots rows, told, most, c, d -/
def F_law_d_right : Fn := runDef 5
  (sSeq (sIf (tNot (tTru (eCall F_law_d_fits (aCons (eVar 0) aNil)))) (sRet (eOp1 oIsN (eVar 1))) sPass) (sSeq (sSet 2 (eInt 1)) (sSeq (sFor (iAny (eVar 0)) (gTp (gMore (gNm 3) (gMore (gNm 4) gNone))) (sSet 2 (eIf (tAnd (tTru (eVar 2)) (tTru (eVar 4))) (eOp oDiv (eOp oMul (eVar 2) (eVar 4)) (eCall F_law_d_gcd (aCons (eVar 2) (aCons (eVar 4) aNil)))) (eInt 0)))) (sSeq (sIf (tOr (tNot (tTru (eIsA (eVar 1) .tuple))) (tOr (tBl (eOp oNe (eB bLen (aCons (eVar 1) aNil)) (eInt 2))) (tOr (tNot (tTru (eCall F_law_same (aCons (eOp oIx (eVar 1) (eInt 1)) (aCons (eVar 2) aNil))))) (tNot (tTru (eCall F_law_d_allmeet (aCons (eOp oIx (eVar 1) (eInt 0)) (aCons (eVar 0) aNil)))))))) (sRet (eC (.bl false))) sPass) (sRet (eAnd (eCall F_law_same (aCons (eOp oIx (eVar 1) (eInt 0)) (aCons (eOp oAdd (eOp oIx (eVar 1) (eInt 0)) (eInt 0)) aNil))) (eAnd (eNot (eIsA (eOp oIx (eVar 1) (eInt 0)) .bool)) (eOr (eOp oEq (eVar 2) (eInt 0)) (eChain oLe oLt (eInt 0) (eOp oIx (eVar 1) (eInt 0)) (eVar 2))))))))))

/-- law(script) : slots script, s, turn, great, rows, handed, c, d, kept, told, found, row, y -/
def F_law : Fn := runDef 13
  (sSeq (sSet 1 (eCall F_law_source (aCons (eVar 0) (aCons (eInt 0) aNil)))) (sSeq (sFor (iRange1 (aCons (eInt 4) aNil)) (gNm 2) (sSeq (sSet 3 (eOp oEq (eCall F_law_pick (aCons (eVar 1) (aCons (eInt 3) aNil))) (eInt 0))) (sSeq (sSet 4 (eCall F_law_d_conditions (aCons (eVar 1) (aCons (eIf (tTru (eVar 3)) (eOp oPow (eInt 10) (eInt 18)) (eInt 12)) (aCons (eIf (tTru (eVar 3)) (eOp oPow (eInt 10) (eInt 30)) (eInt 40)) aNil))))) (sSeq (sSet 5 (eIf (tTru (eCall F_law_pick (aCons (eVar 1) (aCons (eInt 2) aNil)))) (eComp (iAny (eVar 4)) (gNm 11) tYes (eB bList (aCons (eVar 11) aNil)) [11]) (eB bList (aCons (eVar 4) aNil)))) (sSeq (sGet (gTp (gMore (gNm 8) (gMore (gNm 9) gNone))) (eTup (aCons (eComp (iAny (eVar 5)) (gNm 11) tYes (eB bTuple (aCons (eVar 11) aNil)) [11]) (aCons (eCall F_meet_numbers (aCons (eVar 5) aNil)) aNil)))) (sSeq (sIf (tOr (tBl (eOp oNe (eComp (iAny (eVar 5)) (gNm 11) tYes (eB bTuple (aCons (eVar 11) aNil)) [11]) (eVar 8))) (tNot (tTru (eCall F_law_d_right (aCons (eVar 4) (aCons (eVar 9) aNil)))))) (sRet (eC (.bl false))) sPass) (sSeq (sIf (tBl (eOp oNe (eCall F_meet_numbers (aCons (eB bTuple (aCons (eCall F_law_shuffled (aCons (eVar 1) (aCons (eVar 4) aNil))) aNil)) aNil)) (eVar 9))) (sRet (eC (.bl false))) sPass) (sIf (tNot (tTru (eVar 3))) (sSeq (sSet 10 (eComp (iRange2 (aCons (eOp1 oNeg (eInt 300)) (aCons (eInt 300) aNil))) (gNm 12) (tTru (eCall F_law_d_allmeet (aCons (eVar 12) (aCons (eVar 4) aNil)))) (eVar 12) [12])) (sSeq (sIf (tAnd (tBl (eOp1 oIsN (eVar 9))) (tTru (eVar 10))) (sRet (eC (.bl false))) sPass) (sIf (tAnd (tBl (eOp1 oNotN (eVar 9))) (tBl (eOp oNe (eVar 10) (eComp (iRange2 (aCons (eOp1 oNeg (eInt 300)) (aCons (eInt 300) aNil))) (gNm 12) (tBl (eOp oEq (eCall F_law_d_modulo (aCons (eOp oSub (eVar 12) (eOp oIx (eVar 9) (eInt 0))) (aCons (eOp oIx (eVar 9) (eInt 1)) aNil))) (eInt 0))) (eVar 12) [12])))) (sRet (eC (.bl false))) sPass))) sPass)))))))) (sSeq (sPar [6, 7] [(eCall F_law_within (aCons (eVar 1) (aCons (eOp1 oNeg (eOp oPow (eInt 10) (eInt 30))) (aCons (eOp oPow (eInt 10) (eInt 30)) aNil)))), (eOp oAdd (eInt 1) (eCall F_law_pick (aCons (eVar 1) (aCons (eOp oPow (eInt 10) (eInt 18)) aNil))))]) (sSeq (sIf (tOr (tBl (eOp oNe (eCall F_meet_numbers (aCons (eLst aNil) aNil)) (eTup (aCons (eInt 0) (aCons (eInt 1) aNil))))) (tOr (tBl (eOp oNe (eCall F_meet_numbers (aCons (eLst (aCons (eTup (aCons (eVar 6) (aCons (eInt 0) aNil))) aNil)) aNil)) (eTup (aCons (eVar 6) (aCons (eInt 0) aNil))))) (tBl (eOp oNe (eCall F_meet_numbers (aCons (eLst (aCons (eTup (aCons (eVar 6) (aCons (eVar 7) aNil))) aNil)) aNil)) (eTup (aCons (eOp oMod (eB bInt (aCons (eVar 6) aNil)) (eVar 7)) (aCons (eVar 7) aNil))))))) (sRet (eC (.bl false))) sPass) (sRet (eAnd (eOp1 oIsN (eCall F_meet_numbers (aCons (eLst (aCons (eTup (aCons (eVar 6) (aCons (eInt 0) aNil))) (aCons (eTup (aCons (eOp oAdd (eVar 6) (eInt 1)) (aCons (eInt 0) aNil))) aNil))) aNil))) (eOp oEq (eCall F_meet_numbers (aCons (eLst (aCons (eTup (aCons (eVar 6) (aCons (eInt 0) aNil))) (aCons (eTup (aCons (eOp oAdd (eVar 6) (eVar 7)) (aCons (eVar 7) aNil))) (aCons (eTup (aCons (eOp oSub (eVar 6) (eInt 1)) (aCons (eInt 1) aNil))) aNil)))) aNil)) (eTup (aCons (eVar 6) (aCons (eInt 0) aNil))))))))))
end Mini.K22

set_option Elab.async false
set_option linter.all false
set_option maxRecDepth 100000
set_option maxHeartbeats 4000000
/-! W_k22: each def keeps the promise of its evaluator's term (printed by gen.py). -/
namespace Mini.K22
open Mini PySem PySem.Spec PyProof.Rows L2
def topS (i : Nat) : Stmt := PySem.Challenge.pw_whicheverfits_k22_numbers_that_meet_all.main.body.getD i (.Pass ⟨0, 0, 0, 0⟩)
section
variable {P : Program} {w : World} {K : PySem.W.Frag} {mg : Str → Option Value} {base : Heap} {T : XT}
abbrev s_common : Stmt := topS 1
theorem sc_common : FnScope ["a", "b", "one", "other"] ["a", "b"] (defScope s_common) := ⟨rfl, rfl, rfl, by decide +kernel, rfl, by decide +kernel, by decide +kernel⟩
theorem d_common (t : TxtD K mg "common" s_common ["a", "b"]) (m_abs : mg "abs" = none) (m_int : mg "int" = none) : Def P w K mg base T 1 "common" ["a", "b"] F_common :=
  Def.of (N := ["a", "b", "one", "other"]) t sc_common fun f cdv A outer s H E hr => by
    have tk := takes_of (X := cxOf (L2.CX P w) P w K mg base ["a", "b", "one", "other"] "common" (defScope s_common) f cdv A outer s H E) (E := E) rfl rfl rfl rfl
    exact ⟨_, (sb_cons (ss_par2 2 3 rfl sc_common.nd (s_abs m_abs (sa_cons (s_v 0) sa_nil)) (s_abs m_abs (sa_cons (s_v 1) sa_nil))) (sb_cons (ss_while fuel (passes_of rfl) (st_tru (s_v 3)) (sb_one (ss_par2 2 3 rfl sc_common.nd (s_v 3) (s_mod (s_int1 m_int (sa_cons (s_v 2) sa_nil)) (s_v 3))))) (sb_one (ss_ret (s_own 2)))))⟩

abbrev s_alike : Stmt := topS 2
theorem sc_alike : FnScope ["a", "b", "grain"] ["a", "b", "grain"] (defScope s_alike) := ⟨rfl, rfl, rfl, by decide +kernel, rfl, by decide +kernel, by decide +kernel⟩
theorem d_alike (t : TxtD K mg "alike" s_alike ["a", "b", "grain"]) (m_int : mg "int" = none) : Def P w K mg base T 1 "alike" ["a", "b", "grain"] F_alike :=
  Def.of (N := ["a", "b", "grain"]) t sc_alike fun f cdv A outer s H E hr => by
    have tk := takes_of (X := cxOf (L2.CX P w) P w K mg base ["a", "b", "grain"] "alike" (defScope s_alike) f cdv A outer s H E) (E := E) rfl rfl rfl rfl
    exact ⟨_, (sb_cons (ss_if (st_cmp (c_eq hr.units) (s_v 2) s_int) (sb_one (ss_ret (s_cmp (c_eq hr.units) (s_v 0) (s_v 1)))) sb_nil) (sb_one (ss_ret (s_cmp (c_eq hr.units) (s_mod (s_int1 m_int (sa_cons (s_sub (s_v 0) (s_v 1)) sa_nil)) (s_v 2)) s_int))))⟩

abbrev s_inverse : Stmt := topS 3
theorem sc_inverse : FnScope ["number", "grain", "one", "other", "left", "right", "many"] ["number", "grain"] (defScope s_inverse) := ⟨rfl, rfl, rfl, by decide +kernel, rfl, by decide +kernel, by decide +kernel⟩
theorem d_inverse (t : TxtD K mg "inverse" s_inverse ["number", "grain"]) (m_int : mg "int" = none) : Def P w K mg base T 1 "inverse" ["number", "grain"] F_inverse :=
  Def.of (N := ["number", "grain", "one", "other", "left", "right", "many"]) t sc_inverse fun f cdv A outer s H E hr => by
    have tk := takes_of (X := cxOf (L2.CX P w) P w K mg base ["number", "grain", "one", "other", "left", "right", "many"] "inverse" (defScope s_inverse) f cdv A outer s H E) (E := E) rfl rfl rfl rfl
    exact ⟨_, (sb_cons (ss_par2 2 3 rfl sc_inverse.nd (s_mod (s_int1 m_int (sa_cons (s_v 0) sa_nil)) (s_v 1)) (s_v 1)) (sb_cons (ss_get (s_tup (sa_cons s_int (sa_cons s_int sa_nil))) (sg_tup rfl (sgs_cons (sg_nm 4 sc_inverse.nd) (sgs_cons (sg_nm 5 sc_inverse.nd) sgs_nil)))) (sb_cons (ss_while fuel (passes_of rfl) (st_tru (s_v 3)) (sb_cons (ss_set 6 sc_inverse.nd (s_div (s_v 2) (s_v 3))) (sb_cons (ss_par2 2 3 rfl sc_inverse.nd (s_v 3) (s_sub (s_v 2) (s_mul (s_v 6) (s_v 3)))) (sb_one (ss_par2 4 5 rfl sc_inverse.nd (s_v 5) (s_sub (s_v 4) (s_mul (s_v 6) (s_v 5)))))))) (sb_one (ss_ret (s_mod (s_int1 m_int (sa_cons (s_v 4) sa_nil)) (s_v 1)))))))⟩

abbrev s_both : Stmt := topS 4
theorem sc_both : FnScope ["first", "second", "shared", "rest", "steps", "a", "d", "b", "e"] ["first", "second"] (defScope s_both) := ⟨rfl, rfl, rfl, by decide +kernel, rfl, by decide +kernel, by decide +kernel⟩
theorem d_both (t : TxtD K mg "both" s_both ["first", "second"]) (m_int : mg "int" = none) (D_alike : Def P w K mg base T 1 "alike" ["a", "b", "grain"] F_alike) (D_common : Def P w K mg base T 1 "common" ["a", "b"] F_common) (D_inverse : Def P w K mg base T 1 "inverse" ["number", "grain"] F_inverse) : Def P w K mg base T 2 "both" ["first", "second"] F_both :=
  Def.of (N := ["first", "second", "shared", "rest", "steps", "a", "d", "b", "e"]) t sc_both fun f cdv A outer s H E hr => by
    have tk := takes_of (X := cxOf (L2.CX P w) P w K mg base ["first", "second", "shared", "rest", "steps", "a", "d", "b", "e"] "both" (defScope s_both) f cdv A outer s H E) (E := E) rfl rfl rfl rfl
    exact ⟨_, (sb_cons (ss_get (s_v 0) (sg_tup rfl (sgs_cons (sg_nm 5 sc_both.nd) (sgs_cons (sg_nm 6 sc_both.nd) sgs_nil)))) (sb_cons (ss_get (s_v 1) (sg_tup rfl (sgs_cons (sg_nm 7 sc_both.nd) (sgs_cons (sg_nm 8 sc_both.nd) sgs_nil)))) (sb_cons (ss_if (st_cmp (c_eq hr.units) (s_v 6) s_int) (sb_one (ss_ret (s_if (st_tru (s_call D_alike hr tk (ar_cons (ar_cons (ar_cons ar_nil))) (sa_cons (s_v 5) (sa_cons (s_v 7) (sa_cons (s_v 8) sa_nil))))) (s_tup (sa_cons (s_v 5) (sa_cons s_int sa_nil))) s_non))) sb_nil) (sb_cons (ss_if (st_cmp (c_eq hr.units) (s_v 8) s_int) (sb_one (ss_ret (s_if (st_tru (s_call D_alike hr tk (ar_cons (ar_cons (ar_cons ar_nil))) (sa_cons (s_v 5) (sa_cons (s_v 7) (sa_cons (s_v 6) sa_nil))))) (s_tup (sa_cons (s_v 7) (sa_cons s_int sa_nil))) s_non))) sb_nil) (sb_cons (ss_set 2 sc_both.nd (s_call D_common hr tk (ar_cons (ar_cons ar_nil)) (sa_cons (s_v 6) (sa_cons (s_v 8) sa_nil)))) (sb_cons (ss_if (st_tru (s_mod (s_int1 m_int (sa_cons (s_sub (s_v 7) (s_v 5)) sa_nil)) (s_v 2))) (sb_one (ss_ret s_non)) sb_nil) (sb_cons (ss_set 3 sc_both.nd (s_div (s_v 8) (s_v 2))) (sb_cons (ss_set 4 sc_both.nd (s_mod (s_int1 m_int (sa_cons (s_mul (s_div (s_sub (s_v 7) (s_v 5)) (s_v 2)) (s_call D_inverse hr tk (ar_cons (ar_cons ar_nil)) (sa_cons (s_div (s_v 6) (s_v 2)) (sa_cons (s_v 3) sa_nil)))) sa_nil)) (s_v 3))) (sb_one (ss_ret (s_tup (sa_cons (s_mod (s_int1 m_int (sa_cons (s_add (s_v 5) (s_mul (s_v 6) (s_v 4))) sa_nil)) (s_mul (s_v 6) (s_v 3))) (sa_cons (s_mul (s_v 6) (s_v 3)) sa_nil)))))))))))))⟩

abbrev s_meet_numbers : Stmt := topS 5
theorem sc_meet_numbers : FnScope ["rows", "found", "one"] ["rows"] (defScope s_meet_numbers) := ⟨rfl, rfl, rfl, by decide +kernel, rfl, by decide +kernel, by decide +kernel⟩
theorem d_meet_numbers (t : TxtD K mg "meet_numbers" s_meet_numbers ["rows"]) (D_both : Def P w K mg base T 2 "both" ["first", "second"] F_both) : Def P w K mg base T 3 "meet_numbers" ["rows"] F_meet_numbers :=
  Def.of (N := ["rows", "found", "one"]) t sc_meet_numbers fun f cdv A outer s H E hr => by
    have tk := takes_of (X := cxOf (L2.CX P w) P w K mg base ["rows", "found", "one"] "meet_numbers" (defScope s_meet_numbers) f cdv A outer s H E) (E := E) rfl rfl rfl rfl
    exact ⟨_, (sb_cons (ss_set 1 sc_meet_numbers.nd (s_tup (sa_cons s_int (sa_cons s_int sa_nil)))) (sb_cons (ss_for (passes_of rfl) rfl (si_any (s_v 0)) (sg_nm 2 sc_meet_numbers.nd) (sb_cons (ss_set 1 sc_meet_numbers.nd (s_call D_both hr tk (ar_cons (ar_cons ar_nil)) (sa_cons (s_v 1) (sa_cons (s_tup (sa_cons (s_ix (s_v 2) s_int) (sa_cons (s_ix (s_v 2) s_int) sa_nil))) sa_nil)))) (sb_one (ss_if (st_isN (s_v 1)) (sb_one (ss_ret s_non)) sb_nil)))) (sb_one (ss_ret (s_own 1)))))⟩

abbrev s_law_source : Stmt := topS 7
theorem sc_law_source : FnScope ["script", "at", "k", "left", "seed", "many", "raw", "cell"] ["script", "at"] (defScope s_law_source) := ⟨rfl, rfl, rfl, by decide +kernel, rfl, by decide +kernel, by decide +kernel⟩
theorem d_law_source (t : TxtD K mg "_law_source" s_law_source ["script", "at"]) (m_abs : mg "abs" = none) (m_int : mg "int" = none) (m_len : mg "len" = none) (m_min : mg "min" = none) (m_range : mg "range" = none) : Def P w K mg base T 1 "_law_source" ["script", "at"] F_law_source :=
  Def.of (N := ["script", "at", "k", "left", "seed", "many", "raw", "cell"]) t sc_law_source fun f cdv A outer s H E hr => by
    have tk := takes_of (X := cxOf (L2.CX P w) P w K mg base ["script", "at", "k", "left", "seed", "many", "raw", "cell"] "_law_source" (defScope s_law_source) f cdv A outer s H E) (E := E) rfl rfl rfl rfl
    exact ⟨_, (sb_cons (ss_par3 3 4 5 rfl sc_law_source.nd (s_lstC sa_nil) (s_add s_int (s_v 1)) (s_min rfl m_min (sa_cons (s_len m_len (sa_cons (s_v 0) sa_nil)) (sa_cons s_int sa_nil)))) (sb_cons (ss_for (passes_of rfl) rfl (si_range1 m_range (sa_cons (s_v 5) sa_nil)) (sg_nm 2 sc_law_source.nd) (sb_cons (ss_set 6 sc_law_source.nd (s_int1 m_int (sa_cons (s_ix (s_v 0) (s_mod (s_add (s_v 1) (s_v 2)) (s_v 5))) sa_nil))) (sb_cons (ss_set 7 sc_law_source.nd (s_abs m_abs (sa_cons (s_v 6) sa_nil))) (sb_cons (ss_set 4 sc_law_source.nd (s_mod (s_int1 m_int (sa_cons (s_add (s_add (s_add (s_mul (s_v 4) s_int) (s_mod (s_v 7) s_int)) (s_v 2)) (s_if (st_cmp c_lt (s_v 6) s_int) s_int s_int)) sa_nil)) s_int)) (sb_one (ss_if (st_cmp c_ge (s_v 7) (s_pow s_int s_int)) (sb_one (ss_appC (s_v 3) (s_mod (s_v 7) (s_pow (s_pow s_int s_int) s_int)))) sb_nil)))))) (sb_one (ss_ret (s_disp (sd_cons (s_v 3) (sd_cons s_int (sd_cons (s_v 4) (sd_cons s_int sd_nil)))))))))⟩

abbrev s_law_pick : Stmt := topS 8
theorem sc_law_pick : FnScope ["s", "many", "told"] ["s", "many"] (defScope s_law_pick) := ⟨rfl, rfl, rfl, by decide +kernel, rfl, by decide +kernel, by decide +kernel⟩
theorem d_law_pick (t : TxtD K mg "_law_pick" s_law_pick ["s", "many"]) (m_int : mg "int" = none) : Def P w K mg base T 1 "_law_pick" ["s", "many"] F_law_pick :=
  Def.of (N := ["s", "many", "told"]) t sc_law_pick fun f cdv A outer s H E hr => by
    have tk := takes_of (X := cxOf (L2.CX P w) P w K mg base ["s", "many", "told"] "_law_pick" (defScope s_law_pick) f cdv A outer s H E) (E := E) rfl rfl rfl rfl
    exact ⟨_, (sb_cons (ss_if (st_cmp c_lt (s_v 1) s_int) (sb_one (ss_ret s_int)) sb_nil) (sb_cons (ss_while fuel (passes_of rfl) (st_w (sw_and (st_cmp c_lt (s_dget (hu_of hr) (s_v 0) s_str) s_int) (sw_and1 (st_tru (s_dget (hu_of hr) (s_v 0) s_str))))) (sb_one (ss_dput (hu_of hr) (s_v 0) s_str (s_popC (s_dget (hu_of hr) (s_v 0) s_str) s_int)))) (sb_cons (ss_if (st_cmp c_gt (s_dget (hu_of hr) (s_v 0) s_str) s_int) (sb_cons (ss_set 2 sc_law_pick.nd (s_mod (s_int1 m_int (sa_cons (s_dget (hu_of hr) (s_v 0) s_str) sa_nil)) (s_v 1))) (sb_cons (ss_dput (hu_of hr) (s_v 0) s_str (s_div (s_dget (hu_of hr) (s_v 0) s_str) (s_v 1))) (sb_one (ss_ret (s_own 2))))) sb_nil) (sb_cons (ss_dput (hu_of hr) (s_v 0) s_str (s_add (s_dget (hu_of hr) (s_v 0) s_str) s_int)) (sb_cons (ss_dput (hu_of hr) (s_v 0) s_str (s_mod (s_int1 m_int (sa_cons (s_add (s_add (s_mul (s_dget (hu_of hr) (s_v 0) s_str) s_int) (s_mul (s_dget (hu_of hr) (s_v 0) s_str) s_int)) s_int) sa_nil)) s_int)) (sb_one (ss_ret (s_mod (s_int1 m_int (sa_cons (s_add (s_div (s_dget (hu_of hr) (s_v 0) s_str) s_int) (s_div (s_mul (s_dget (hu_of hr) (s_v 0) s_str) s_int) s_int)) sa_nil)) (s_v 1)))))))))⟩

abbrev s_law_within : Stmt := topS 9
theorem sc_law_within : FnScope ["s", "low", "high"] ["s", "low", "high"] (defScope s_law_within) := ⟨rfl, rfl, rfl, by decide +kernel, rfl, by decide +kernel, by decide +kernel⟩
theorem d_law_within (t : TxtD K mg "_law_within" s_law_within ["s", "low", "high"]) (D_law_pick : Def P w K mg base T 1 "_law_pick" ["s", "many"] F_law_pick) : Def P w K mg base T 2 "_law_within" ["s", "low", "high"] F_law_within :=
  Def.of (N := ["s", "low", "high"]) t sc_law_within fun f cdv A outer s H E hr => by
    have tk := takes_of (X := cxOf (L2.CX P w) P w K mg base ["s", "low", "high"] "_law_within" (defScope s_law_within) f cdv A outer s H E) (E := E) rfl rfl rfl rfl
    exact ⟨_, (sb_one (ss_ret (s_add (s_v 1) (s_call D_law_pick hr tk (ar_cons (ar_cons ar_nil)) (sa_cons (s_v 0) (sa_cons (s_add (s_sub (s_v 2) (s_v 1)) s_int) sa_nil))))))⟩

abbrev s_law_one : Stmt := topS 10
theorem sc_law_one : FnScope ["s", "things"] ["s", "things"] (defScope s_law_one) := ⟨rfl, rfl, rfl, by decide +kernel, rfl, by decide +kernel, by decide +kernel⟩
theorem d_law_one (t : TxtD K mg "_law_one" s_law_one ["s", "things"]) (m_len : mg "len" = none) (D_law_pick : Def P w K mg base T 1 "_law_pick" ["s", "many"] F_law_pick) : Def P w K mg base T 2 "_law_one" ["s", "things"] F_law_one :=
  Def.of (N := ["s", "things"]) t sc_law_one fun f cdv A outer s H E hr => by
    have tk := takes_of (X := cxOf (L2.CX P w) P w K mg base ["s", "things"] "_law_one" (defScope s_law_one) f cdv A outer s H E) (E := E) rfl rfl rfl rfl
    exact ⟨_, (sb_one (ss_ret (s_ix (s_v 1) (s_call D_law_pick hr tk (ar_cons (ar_cons ar_nil)) (sa_cons (s_v 0) (sa_cons (s_len m_len (sa_cons (s_v 1) sa_nil)) sa_nil))))))⟩

abbrev s_law_shuffled : Stmt := topS 11
theorem sc_law_shuffled : FnScope ["s", "things", "k", "left", "told"] ["s", "things"] (defScope s_law_shuffled) := ⟨rfl, rfl, rfl, by decide +kernel, rfl, by decide +kernel, by decide +kernel⟩
theorem d_law_shuffled (t : TxtD K mg "_law_shuffled" s_law_shuffled ["s", "things"]) (m_len : mg "len" = none) (m_list : mg "list" = none) (m_range : mg "range" = none) (D_law_pick : Def P w K mg base T 1 "_law_pick" ["s", "many"] F_law_pick) : Def P w K mg base T 2 "_law_shuffled" ["s", "things"] F_law_shuffled :=
  Def.of (N := ["s", "things", "k", "left", "told"]) t sc_law_shuffled fun f cdv A outer s H E hr => by
    have tk := takes_of (X := cxOf (L2.CX P w) P w K mg base ["s", "things", "k", "left", "told"] "_law_shuffled" (defScope s_law_shuffled) f cdv A outer s H E) (E := E) rfl rfl rfl rfl
    exact ⟨_, (sb_cons (ss_par2 3 4 rfl sc_law_shuffled.nd (s_list m_list (sa_cons (s_v 1) sa_nil)) (s_lst sa_nil)) (sb_cons (ss_for (passes_of rfl) rfl (si_range1 m_range (sa_cons (s_len m_len (sa_cons (s_v 1) sa_nil)) sa_nil)) (sg_nm 2 sc_law_shuffled.nd) (sb_one (ss_app 4 (s_popV 3 (s_call D_law_pick hr tk (ar_cons (ar_cons ar_nil)) (sa_cons (s_v 0) (sa_cons (s_lenV 3 m_len) sa_nil))))))) (sb_one (ss_ret (s_own 4)))))⟩

abbrev s_law_same : Stmt := topS 12
theorem sc_law_same : FnScope ["answer", "due", "fits", "key", "one", "other"] ["answer", "due"] (defScope s_law_same) := ⟨rfl, rfl, rfl, by decide +kernel, rfl, by decide +kernel, by decide +kernel⟩
theorem d_law_same (t : TxtD K mg "_law_same" s_law_same ["answer", "due"]) (m_bool : mg "bool" = none) (m_int : mg "int" = none) (m_isinstance : mg "isinstance" = none) : Def P w K mg base T 1 "_law_same" ["answer", "due"] F_law_same :=
  Def.of (N := ["answer", "due", "fits", "key", "one", "other"]) t sc_law_same fun f cdv A outer s H E hr => by
    have tk := takes_of (X := cxOf (L2.CX P w) P w K mg base ["answer", "due", "fits", "key", "one", "other"] "_law_same" (defScope s_law_same) f cdv A outer s H E) (E := E) rfl rfl rfl rfl
    exact ⟨_, (sb_cons (ss_if (st_isN (s_v 1)) (sb_one (ss_ret (s_isN (s_v 0)))) sb_nil) (sb_cons (ss_if (st_tru (s_isA .bool m_isinstance m_bool (s_v 1))) (sb_one (ss_ret (s_and (s_isA .bool m_isinstance m_bool (s_v 0)) (s_one (s_cmp (c_eq hr.units) (s_v 0) (s_v 1)))))) sb_nil) (sb_cons (ss_if (st_tru (s_isA .int m_isinstance m_int (s_v 1))) (sb_one (ss_ret (s_and (s_isA .int m_isinstance m_int (s_v 0)) (s_and (s_not (s_isA .bool m_isinstance m_bool (s_v 0))) (s_one (s_cmp (c_eq hr.units) (s_v 0) (s_v 1))))))) sb_nil) sb_no)))⟩

abbrev s_law_d_gcd : Stmt := topS 13
theorem sc_law_d_gcd : FnScope ["a", "b", "turn", "one", "other"] ["a", "b"] (defScope s_law_d_gcd) := ⟨rfl, rfl, rfl, by decide +kernel, rfl, by decide +kernel, by decide +kernel⟩
theorem d_law_d_gcd (t : TxtD K mg "_law_d_gcd" s_law_d_gcd ["a", "b"]) (m_abs : mg "abs" = none) (m_int : mg "int" = none) (m_range : mg "range" = none) : Def P w K mg base T 1 "_law_d_gcd" ["a", "b"] F_law_d_gcd :=
  Def.of (N := ["a", "b", "turn", "one", "other"]) t sc_law_d_gcd fun f cdv A outer s H E hr => by
    have tk := takes_of (X := cxOf (L2.CX P w) P w K mg base ["a", "b", "turn", "one", "other"] "_law_d_gcd" (defScope s_law_d_gcd) f cdv A outer s H E) (E := E) rfl rfl rfl rfl
    exact ⟨_, (sb_cons (ss_par2 3 4 rfl sc_law_d_gcd.nd (s_abs m_abs (sa_cons (s_v 0) sa_nil)) (s_abs m_abs (sa_cons (s_v 1) sa_nil))) (sb_cons (ss_for (passes_of rfl) rfl (si_range1 m_range (sa_cons s_int sa_nil)) (sg_nm 2 sc_law_d_gcd.nd) (sb_cons (ss_if (st_cmp (c_eq hr.units) (s_v 4) s_int) (sb_one ss_break) sb_nil) (sb_one (ss_par2 3 4 rfl sc_law_d_gcd.nd (s_v 4) (s_mod (s_int1 m_int (sa_cons (s_v 3) sa_nil)) (s_v 4)))))) (sb_one (ss_ret (s_own 3)))))⟩

abbrev s_law_d_modulo : Stmt := topS 14
theorem sc_law_d_modulo : FnScope ["a", "d"] ["a", "d"] (defScope s_law_d_modulo) := ⟨rfl, rfl, rfl, by decide +kernel, rfl, by decide +kernel, by decide +kernel⟩
theorem d_law_d_modulo (t : TxtD K mg "_law_d_modulo" s_law_d_modulo ["a", "d"]) (m_int : mg "int" = none) : Def P w K mg base T 1 "_law_d_modulo" ["a", "d"] F_law_d_modulo :=
  Def.of (N := ["a", "d"]) t sc_law_d_modulo fun f cdv A outer s H E hr => by
    have tk := takes_of (X := cxOf (L2.CX P w) P w K mg base ["a", "d"] "_law_d_modulo" (defScope s_law_d_modulo) f cdv A outer s H E) (E := E) rfl rfl rfl rfl
    exact ⟨_, (sb_one (ss_ret (s_if (st_tru (s_v 1)) (s_mod (s_int1 m_int (sa_cons (s_v 0) sa_nil)) (s_v 1)) (s_v 0))))⟩

abbrev s_law_d_conditions : Stmt := topS 15
theorem sc_law_d_conditions : FnScope ["s", "most", "far", "k", "rows", "hit", "aimed", "d", "c"] ["s", "most", "far"] (defScope s_law_d_conditions) := ⟨rfl, rfl, rfl, by decide +kernel, rfl, by decide +kernel, by decide +kernel⟩
theorem d_law_d_conditions (t : TxtD K mg "_law_d_conditions" s_law_d_conditions ["s", "most", "far"]) (m_range : mg "range" = none) (D_law_within : Def P w K mg base T 2 "_law_within" ["s", "low", "high"] F_law_within) (D_law_pick : Def P w K mg base T 1 "_law_pick" ["s", "many"] F_law_pick) (D_law_one : Def P w K mg base T 2 "_law_one" ["s", "things"] F_law_one) : Def P w K mg base T 3 "_law_d_conditions" ["s", "most", "far"] F_law_d_conditions :=
  Def.of (N := ["s", "most", "far", "k", "rows", "hit", "aimed", "d", "c"]) t sc_law_d_conditions fun f cdv A outer s H E hr => by
    have tk := takes_of (X := cxOf (L2.CX P w) P w K mg base ["s", "most", "far", "k", "rows", "hit", "aimed", "d", "c"] "_law_d_conditions" (defScope s_law_d_conditions) f cdv A outer s H E) (E := E) rfl rfl rfl rfl
    exact ⟨_, (sb_cons (ss_par3 4 5 6 rfl sc_law_d_conditions.nd (s_lst sa_nil) (s_call D_law_within hr tk (ar_cons (ar_cons (ar_cons ar_nil))) (sa_cons (s_v 0) (sa_cons (s_neg (s_v 2)) (sa_cons (s_v 2) sa_nil)))) (s_call D_law_pick hr tk (ar_cons (ar_cons ar_nil)) (sa_cons (s_v 0) (sa_cons s_int sa_nil)))) (sb_cons (ss_for (passes_of rfl) rfl (si_range1 m_range (sa_cons (s_call D_law_one hr tk (ar_cons (ar_cons ar_nil)) (sa_cons (s_v 0) (sa_cons (s_lst (sa_cons s_int (sa_cons s_int (sa_cons s_int (sa_cons s_int (sa_cons s_int (sa_cons s_int (sa_cons s_int (sa_cons s_int sa_nil))))))))) sa_nil))) sa_nil)) (sg_nm 3 sc_law_d_conditions.nd) (sb_cons (ss_set 7 sc_law_d_conditions.nd (s_call D_law_one hr tk (ar_cons (ar_cons ar_nil)) (sa_cons (s_v 0) (sa_cons (s_add (s_lst (sa_cons s_int sa_nil)) (s_mul (s_lst (sa_cons (s_add s_int (s_call D_law_pick hr tk (ar_cons (ar_cons ar_nil)) (sa_cons (s_v 0) (sa_cons (s_v 1) sa_nil)))) sa_nil)) s_int)) sa_nil)))) (sb_cons (ss_set 8 sc_law_d_conditions.nd (s_if (st_tru (s_v 6)) (s_add (s_v 5) (s_mul (s_v 7) (s_call D_law_within hr tk (ar_cons (ar_cons (ar_cons ar_nil))) (sa_cons (s_v 0) (sa_cons (s_neg s_int) (sa_cons s_int sa_nil)))))) (s_call D_law_within hr tk (ar_cons (ar_cons (ar_cons ar_nil))) (sa_cons (s_v 0) (sa_cons (s_neg (s_v 2)) (sa_cons (s_v 2) sa_nil)))))) (sb_one (ss_app 4 (s_tup (sa_cons (s_v 8) (sa_cons (s_v 7) sa_nil)))))))) (sb_one (ss_ret (s_own 4)))))⟩

abbrev s_law_d_allmeet : Stmt := topS 16
theorem sc_law_d_allmeet : FnScope ["y", "rows", "c", "d"] ["y", "rows"] (defScope s_law_d_allmeet) := ⟨rfl, rfl, rfl, by decide +kernel, rfl, by decide +kernel, by decide +kernel⟩
theorem d_law_d_allmeet (t : TxtD K mg "_law_d_allmeet" s_law_d_allmeet ["y", "rows"]) (m_all : mg "all" = none) (D_law_d_modulo : Def P w K mg base T 1 "_law_d_modulo" ["a", "d"] F_law_d_modulo) : Def P w K mg base T 2 "_law_d_allmeet" ["y", "rows"] F_law_d_allmeet :=
  Def.of (N := ["y", "rows", "c", "d"]) t sc_law_d_allmeet fun f cdv A outer s H E hr => by
    have tk := takes_of (X := cxOf (L2.CX P w) P w K mg base ["y", "rows", "c", "d"] "_law_d_allmeet" (defScope s_law_d_allmeet) f cdv A outer s H E) (E := E) rfl rfl rfl rfl
    exact ⟨_, (sb_one (ss_ret (s_all rfl m_all (sa_cons (s_comp (own := [("c", 2), ("d", 3)]) rfl sc_law_d_allmeet.nd (si_any (s_v 1)) (blkOk_by (N := ["y", "rows", "c", "d"]) (sc := defScope s_law_d_allmeet) (by decide +kernel)) (fun _ _ _ _ _ => by exact (sg_tup rfl (sgs_cons (sg_nm 2 sc_law_d_allmeet.nd) (sgs_cons (sg_nm 3 sc_law_d_allmeet.nd) sgs_nil)))) (fun _ _ _ _ _ => by exact sq_nil) (fun _ _ _ _ _ => by exact (s_cmp (c_eq hr.units) (s_call D_law_d_modulo hr takes0 (ar_cons (ar_cons ar_nil)) (sa_cons (s_sub (s_v 0) (s_v 2)) (sa_cons (s_v 3) sa_nil))) s_int))) sa_nil))))⟩

abbrev s_law_d_fits : Stmt := topS 17
theorem sc_law_d_fits : FnScope ["rows", "c", "d", "e", "g"] ["rows"] (defScope s_law_d_fits) := ⟨rfl, rfl, rfl, by decide +kernel, rfl, by decide +kernel, by decide +kernel⟩
theorem d_law_d_fits (t : TxtD K mg "_law_d_fits" s_law_d_fits ["rows"]) (D_law_d_gcd : Def P w K mg base T 1 "_law_d_gcd" ["a", "b"] F_law_d_gcd) (D_law_d_modulo : Def P w K mg base T 1 "_law_d_modulo" ["a", "d"] F_law_d_modulo) : Def P w K mg base T 2 "_law_d_fits" ["rows"] F_law_d_fits :=
  Def.of (N := ["rows", "c", "d", "e", "g"]) t sc_law_d_fits fun f cdv A outer s H E hr => by
    have tk := takes_of (X := cxOf (L2.CX P w) P w K mg base ["rows", "c", "d", "e", "g"] "_law_d_fits" (defScope s_law_d_fits) f cdv A outer s H E) (E := E) rfl rfl rfl rfl
    exact ⟨_, (sb_cons (ss_for (passes_of rfl) rfl (si_any (s_v 0)) (sg_tup rfl (sgs_cons (sg_nm 1 sc_law_d_fits.nd) (sgs_cons (sg_nm 2 sc_law_d_fits.nd) sgs_nil))) (sb_one (ss_for (passes_of rfl) rfl (si_any (s_v 0)) (sg_tup rfl (sgs_cons (sg_nm 3 sc_law_d_fits.nd) (sgs_cons (sg_nm 4 sc_law_d_fits.nd) sgs_nil))) (sb_one (ss_if (st_cmp (c_ne hr.units) (s_call D_law_d_modulo hr tk (ar_cons (ar_cons ar_nil)) (sa_cons (s_sub (s_v 1) (s_v 3)) (sa_cons (s_call D_law_d_gcd hr tk (ar_cons (ar_cons ar_nil)) (sa_cons (s_v 2) (sa_cons (s_v 4) sa_nil))) sa_nil))) s_int) (sb_one (ss_ret s_bl)) sb_nil))))) (sb_one (ss_ret s_bl)))⟩

abbrev s_law_d_right : Stmt := topS 18
theorem sc_law_d_right : FnScope ["rows", "told", "most", "c", "d"] ["rows", "told"] (defScope s_law_d_right) := ⟨rfl, rfl, rfl, by decide +kernel, rfl, by decide +kernel, by decide +kernel⟩
theorem d_law_d_right (t : TxtD K mg "_law_d_right" s_law_d_right ["rows", "told"]) (m_bool : mg "bool" = none) (m_isinstance : mg "isinstance" = none) (m_len : mg "len" = none) (m_tuple : mg "tuple" = none) (D_law_d_fits : Def P w K mg base T 2 "_law_d_fits" ["rows"] F_law_d_fits) (D_law_d_gcd : Def P w K mg base T 1 "_law_d_gcd" ["a", "b"] F_law_d_gcd) (D_law_same : Def P w K mg base T 1 "_law_same" ["answer", "due"] F_law_same) (D_law_d_allmeet : Def P w K mg base T 2 "_law_d_allmeet" ["y", "rows"] F_law_d_allmeet) : Def P w K mg base T 3 "_law_d_right" ["rows", "told"] F_law_d_right :=
  Def.of (N := ["rows", "told", "most", "c", "d"]) t sc_law_d_right fun f cdv A outer s H E hr => by
    have tk := takes_of (X := cxOf (L2.CX P w) P w K mg base ["rows", "told", "most", "c", "d"] "_law_d_right" (defScope s_law_d_right) f cdv A outer s H E) (E := E) rfl rfl rfl rfl
    exact ⟨_, (sb_cons (ss_if (st_not (st_tru (s_call D_law_d_fits hr tk (ar_cons ar_nil) (sa_cons (s_v 0) sa_nil)))) (sb_one (ss_ret (s_isN (s_v 1)))) sb_nil) (sb_cons (ss_set 2 sc_law_d_right.nd s_int) (sb_cons (ss_for (passes_of rfl) rfl (si_any (s_v 0)) (sg_tup rfl (sgs_cons (sg_nm 3 sc_law_d_right.nd) (sgs_cons (sg_nm 4 sc_law_d_right.nd) sgs_nil))) (sb_one (ss_set 2 sc_law_d_right.nd (s_if (st_w (sw_and (st_tru (s_v 2)) (sw_and1 (st_tru (s_v 4))))) (s_div (s_mul (s_v 2) (s_v 4)) (s_call D_law_d_gcd hr tk (ar_cons (ar_cons ar_nil)) (sa_cons (s_v 2) (sa_cons (s_v 4) sa_nil)))) s_int)))) (sb_cons (ss_if (st_w (sw_or (st_not (st_tru (s_isA .tuple m_isinstance m_tuple (s_v 1)))) (sw_or (st_cmp (c_ne hr.units) (s_len m_len (sa_cons (s_v 1) sa_nil)) s_int) (sw_or (st_not (st_tru (s_call D_law_same hr tk (ar_cons (ar_cons ar_nil)) (sa_cons (s_ix (s_v 1) s_int) (sa_cons (s_v 2) sa_nil))))) (sw_or1 (st_not (st_tru (s_call D_law_d_allmeet hr tk (ar_cons (ar_cons ar_nil)) (sa_cons (s_ix (s_v 1) s_int) (sa_cons (s_v 0) sa_nil)))))))))) (sb_one (ss_ret s_bl)) sb_nil) (sb_one (ss_ret (s_and (s_call D_law_same hr tk (ar_cons (ar_cons ar_nil)) (sa_cons (s_ix (s_v 1) s_int) (sa_cons (s_add (s_ix (s_v 1) s_int) s_int) sa_nil))) (s_and (s_not (s_isA .bool m_isinstance m_bool (s_ix (s_v 1) s_int))) (s_one (s_or (s_cmp (c_eq hr.units) (s_v 2) s_int) (s_one (s_chain c_le c_lt s_int (s_ix (s_v 1) s_int) (s_v 2)))))))))))))⟩

abbrev s_law : Stmt := topS 19
theorem sc_law : FnScope ["script", "s", "turn", "great", "rows", "handed", "c", "d", "kept", "told", "found", "row", "y"] ["script"] (defScope s_law) := ⟨rfl, rfl, rfl, by decide +kernel, rfl, by decide +kernel, by decide +kernel⟩
theorem d_law (t : TxtD K mg "law" s_law ["script"]) (m_int : mg "int" = none) (m_list : mg "list" = none) (m_range : mg "range" = none) (m_tuple : mg "tuple" = none) (D_law_source : Def P w K mg base T 1 "_law_source" ["script", "at"] F_law_source) (D_law_pick : Def P w K mg base T 1 "_law_pick" ["s", "many"] F_law_pick) (D_law_d_conditions : Def P w K mg base T 3 "_law_d_conditions" ["s", "most", "far"] F_law_d_conditions) (D_meet_numbers : Def P w K mg base T 3 "meet_numbers" ["rows"] F_meet_numbers) (D_law_d_right : Def P w K mg base T 3 "_law_d_right" ["rows", "told"] F_law_d_right) (D_law_shuffled : Def P w K mg base T 2 "_law_shuffled" ["s", "things"] F_law_shuffled) (D_law_d_allmeet : Def P w K mg base T 2 "_law_d_allmeet" ["y", "rows"] F_law_d_allmeet) (D_law_d_modulo : Def P w K mg base T 1 "_law_d_modulo" ["a", "d"] F_law_d_modulo) (D_law_within : Def P w K mg base T 2 "_law_within" ["s", "low", "high"] F_law_within) : Def P w K mg base T 4 "law" ["script"] F_law :=
  Def.of (N := ["script", "s", "turn", "great", "rows", "handed", "c", "d", "kept", "told", "found", "row", "y"]) t sc_law fun f cdv A outer s H E hr => by
    have tk := takes_of (X := cxOf (L2.CX P w) P w K mg base ["script", "s", "turn", "great", "rows", "handed", "c", "d", "kept", "told", "found", "row", "y"] "law" (defScope s_law) f cdv A outer s H E) (E := E) rfl rfl rfl rfl
    exact ⟨_, (sb_cons (ss_set 1 sc_law.nd (s_call D_law_source hr tk (ar_cons (ar_cons ar_nil)) (sa_cons (s_v 0) (sa_cons s_int sa_nil)))) (sb_cons (ss_for (passes_of rfl) rfl (si_range1 m_range (sa_cons s_int sa_nil)) (sg_nm 2 sc_law.nd) (sb_cons (ss_set 3 sc_law.nd (s_cmp (c_eq hr.units) (s_call D_law_pick hr tk (ar_cons (ar_cons ar_nil)) (sa_cons (s_v 1) (sa_cons s_int sa_nil))) s_int)) (sb_cons (ss_set 4 sc_law.nd (s_call D_law_d_conditions hr tk (ar_cons (ar_cons (ar_cons ar_nil))) (sa_cons (s_v 1) (sa_cons (s_if (st_tru (s_v 3)) (s_pow s_int s_int) s_int) (sa_cons (s_if (st_tru (s_v 3)) (s_pow s_int s_int) s_int) sa_nil))))) (sb_cons (ss_set 5 sc_law.nd (s_if (st_tru (s_call D_law_pick hr tk (ar_cons (ar_cons ar_nil)) (sa_cons (s_v 1) (sa_cons s_int sa_nil)))) (s_comp (own := [("row", 11)]) rfl sc_law.nd (si_any (s_v 4)) (blkOk_by (N := ["script", "s", "turn", "great", "rows", "handed", "c", "d", "kept", "told", "found", "row", "y"]) (sc := defScope s_law) (by decide +kernel)) (fun _ _ _ _ _ => by exact (sg_nm 11 sc_law.nd)) (fun _ _ _ _ _ => by exact sq_nil) (fun _ _ _ _ _ => by exact (s_list m_list (sa_cons (s_v 11) sa_nil)))) (s_list m_list (sa_cons (s_v 4) sa_nil)))) (sb_cons (ss_get (s_tup (sa_cons (s_comp (own := [("row", 11)]) rfl sc_law.nd (si_any (s_v 5)) (blkOk_by (N := ["script", "s", "turn", "great", "rows", "handed", "c", "d", "kept", "told", "found", "row", "y"]) (sc := defScope s_law) (by decide +kernel)) (fun _ _ _ _ _ => by exact (sg_nm 11 sc_law.nd)) (fun _ _ _ _ _ => by exact sq_nil) (fun _ _ _ _ _ => by exact (s_tuple m_tuple (sa_cons (s_v 11) sa_nil)))) (sa_cons (s_call D_meet_numbers hr tk (ar_cons ar_nil) (sa_cons (s_v 5) sa_nil)) sa_nil))) (sg_tup rfl (sgs_cons (sg_nm 8 sc_law.nd) (sgs_cons (sg_nm 9 sc_law.nd) sgs_nil)))) (sb_cons (ss_if (st_w (sw_or (st_cmp (c_ne hr.units) (s_comp (own := [("row", 11)]) rfl sc_law.nd (si_any (s_v 5)) (blkOk_by (N := ["script", "s", "turn", "great", "rows", "handed", "c", "d", "kept", "told", "found", "row", "y"]) (sc := defScope s_law) (by decide +kernel)) (fun _ _ _ _ _ => by exact (sg_nm 11 sc_law.nd)) (fun _ _ _ _ _ => by exact sq_nil) (fun _ _ _ _ _ => by exact (s_tuple m_tuple (sa_cons (s_v 11) sa_nil)))) (s_v 8)) (sw_or1 (st_not (st_tru (s_call D_law_d_right hr tk (ar_cons (ar_cons ar_nil)) (sa_cons (s_v 4) (sa_cons (s_v 9) sa_nil)))))))) (sb_one (ss_ret s_bl)) sb_nil) (sb_cons (ss_if (st_cmp (c_ne hr.units) (s_call D_meet_numbers hr tk (ar_cons ar_nil) (sa_cons (s_tuple m_tuple (sa_cons (s_call D_law_shuffled hr tk (ar_cons (ar_cons ar_nil)) (sa_cons (s_v 1) (sa_cons (s_v 4) sa_nil))) sa_nil)) sa_nil)) (s_v 9)) (sb_one (ss_ret s_bl)) sb_nil) (sb_one (ss_if (st_not (st_tru (s_v 3))) (sb_cons (ss_comp (i := 10) (own := [("y", 12)]) rfl sc_law.nd (si_range2 m_range (sa_cons (s_neg s_int) (sa_cons s_int sa_nil))) (blkOk_by (N := ["script", "s", "turn", "great", "rows", "handed", "c", "d", "kept", "told", "found", "row", "y"]) (sc := defScope s_law) (by decide +kernel)) (fun _ _ _ _ _ => by exact (sg_nm 12 sc_law.nd)) (fun _ _ _ _ _ => by exact (sq_one (st_tru (s_call D_law_d_allmeet hr takes0 (ar_cons (ar_cons ar_nil)) (sa_cons (s_v 12) (sa_cons (s_v 4) sa_nil)))))) (fun _ _ _ _ _ => by exact (s_v 12))) (sb_cons (ss_if (st_w (sw_and (st_isN (s_v 9)) (sw_and1 (st_tru (s_v 10))))) (sb_one (ss_ret s_bl)) sb_nil) (sb_one (ss_if (st_w (sw_and (st_notN (s_v 9)) (sw_and1 (st_cmp (c_ne hr.units) (s_v 10) (s_comp (own := [("y", 12)]) rfl sc_law.nd (si_range2 m_range (sa_cons (s_neg s_int) (sa_cons s_int sa_nil))) (blkOk_by (N := ["script", "s", "turn", "great", "rows", "handed", "c", "d", "kept", "told", "found", "row", "y"]) (sc := defScope s_law) (by decide +kernel)) (fun _ _ _ _ _ => by exact (sg_nm 12 sc_law.nd)) (fun _ _ _ _ _ => by exact (sq_one (st_cmp (c_eq hr.units) (s_call D_law_d_modulo hr takes0 (ar_cons (ar_cons ar_nil)) (sa_cons (s_sub (s_v 12) (s_ix (s_v 9) s_int)) (sa_cons (s_ix (s_v 9) s_int) sa_nil))) s_int))) (fun _ _ _ _ _ => by exact (s_v 12))))))) (sb_one (ss_ret s_bl)) sb_nil)))) sb_nil))))))))) (sb_cons (ss_par2 6 7 rfl sc_law.nd (s_call D_law_within hr tk (ar_cons (ar_cons (ar_cons ar_nil))) (sa_cons (s_v 1) (sa_cons (s_neg (s_pow s_int s_int)) (sa_cons (s_pow s_int s_int) sa_nil)))) (s_add s_int (s_call D_law_pick hr tk (ar_cons (ar_cons ar_nil)) (sa_cons (s_v 1) (sa_cons (s_pow s_int s_int) sa_nil))))) (sb_cons (ss_if (st_w (sw_or (st_cmp (c_ne hr.units) (s_call D_meet_numbers hr tk (ar_cons ar_nil) (sa_cons (s_lst sa_nil) sa_nil)) (s_tup (sa_cons s_int (sa_cons s_int sa_nil)))) (sw_or (st_cmp (c_ne hr.units) (s_call D_meet_numbers hr tk (ar_cons ar_nil) (sa_cons (s_lst (sa_cons (s_tup (sa_cons (s_v 6) (sa_cons s_int sa_nil))) sa_nil)) sa_nil)) (s_tup (sa_cons (s_v 6) (sa_cons s_int sa_nil)))) (sw_or1 (st_cmp (c_ne hr.units) (s_call D_meet_numbers hr tk (ar_cons ar_nil) (sa_cons (s_lst (sa_cons (s_tup (sa_cons (s_v 6) (sa_cons (s_v 7) sa_nil))) sa_nil)) sa_nil)) (s_tup (sa_cons (s_mod (s_int1 m_int (sa_cons (s_v 6) sa_nil)) (s_v 7)) (sa_cons (s_v 7) sa_nil)))))))) (sb_one (ss_ret s_bl)) sb_nil) (sb_one (ss_ret (s_and (s_isN (s_call D_meet_numbers hr tk (ar_cons ar_nil) (sa_cons (s_lst (sa_cons (s_tup (sa_cons (s_v 6) (sa_cons s_int sa_nil))) (sa_cons (s_tup (sa_cons (s_add (s_v 6) s_int) (sa_cons s_int sa_nil))) sa_nil))) sa_nil))) (s_one (s_cmp (c_eq hr.units) (s_call D_meet_numbers hr tk (ar_cons ar_nil) (sa_cons (s_lst (sa_cons (s_tup (sa_cons (s_v 6) (sa_cons s_int sa_nil))) (sa_cons (s_tup (sa_cons (s_add (s_v 6) (s_v 7)) (sa_cons (s_v 7) sa_nil))) (sa_cons (s_tup (sa_cons (s_sub (s_v 6) s_int) (sa_cons s_int sa_nil))) sa_nil)))) sa_nil)) (s_tup (sa_cons (s_v 6) (sa_cons s_int sa_nil))))))))))))⟩
end
/-- what the top has written -/
theorem all_mk {P : World → Program} {w : World} {K : PySem.W.Frag} {h : Heap} {mg : Str → Option Value} {fa : Addr} {T : XT} (X : K.In h) (G : h.Ns mainGlobals mg) (hfa : mg "law" = some (.ref fa))
    {f0 : Addr} {od0 an0 : Option Addr} {sl0 : Array (Option Value)} {oc0 kV0 dc0 pm0 cd0 ct0 : Value}
    (a0 : PySem.W.nsIn K mainGlobals "common" = some (some (.ref f0))) (l0 : K.lookup f0 = some ⟨oc0, od0, .func (PySem.W.fnOf "common" "common" (defArgs s_common) (defBody s_common) (defScope s_common) .none kV0 dc0 pm0 an0 cd0 ct0), sl0⟩) (c0 : PySem.W.codeIn K cd0 "common" = true) (k0 : PySem.W.keepIn K (.ref f0) = true)
    {f1 : Addr} {od1 an1 : Option Addr} {sl1 : Array (Option Value)} {oc1 kV1 dc1 pm1 cd1 ct1 : Value}
    (a1 : PySem.W.nsIn K mainGlobals "alike" = some (some (.ref f1))) (l1 : K.lookup f1 = some ⟨oc1, od1, .func (PySem.W.fnOf "alike" "alike" (defArgs s_alike) (defBody s_alike) (defScope s_alike) .none kV1 dc1 pm1 an1 cd1 ct1), sl1⟩) (c1 : PySem.W.codeIn K cd1 "alike" = true) (k1 : PySem.W.keepIn K (.ref f1) = true)
    {f2 : Addr} {od2 an2 : Option Addr} {sl2 : Array (Option Value)} {oc2 kV2 dc2 pm2 cd2 ct2 : Value}
    (a2 : PySem.W.nsIn K mainGlobals "inverse" = some (some (.ref f2))) (l2 : K.lookup f2 = some ⟨oc2, od2, .func (PySem.W.fnOf "inverse" "inverse" (defArgs s_inverse) (defBody s_inverse) (defScope s_inverse) .none kV2 dc2 pm2 an2 cd2 ct2), sl2⟩) (c2 : PySem.W.codeIn K cd2 "inverse" = true) (k2 : PySem.W.keepIn K (.ref f2) = true)
    {f3 : Addr} {od3 an3 : Option Addr} {sl3 : Array (Option Value)} {oc3 kV3 dc3 pm3 cd3 ct3 : Value}
    (a3 : PySem.W.nsIn K mainGlobals "both" = some (some (.ref f3))) (l3 : K.lookup f3 = some ⟨oc3, od3, .func (PySem.W.fnOf "both" "both" (defArgs s_both) (defBody s_both) (defScope s_both) .none kV3 dc3 pm3 an3 cd3 ct3), sl3⟩) (c3 : PySem.W.codeIn K cd3 "both" = true) (k3 : PySem.W.keepIn K (.ref f3) = true)
    {f4 : Addr} {od4 an4 : Option Addr} {sl4 : Array (Option Value)} {oc4 kV4 dc4 pm4 cd4 ct4 : Value}
    (a4 : PySem.W.nsIn K mainGlobals "meet_numbers" = some (some (.ref f4))) (l4 : K.lookup f4 = some ⟨oc4, od4, .func (PySem.W.fnOf "meet_numbers" "meet_numbers" (defArgs s_meet_numbers) (defBody s_meet_numbers) (defScope s_meet_numbers) .none kV4 dc4 pm4 an4 cd4 ct4), sl4⟩) (c4 : PySem.W.codeIn K cd4 "meet_numbers" = true) (k4 : PySem.W.keepIn K (.ref f4) = true)
    {f5 : Addr} {od5 an5 : Option Addr} {sl5 : Array (Option Value)} {oc5 kV5 dc5 pm5 cd5 ct5 : Value}
    (a5 : PySem.W.nsIn K mainGlobals "_law_source" = some (some (.ref f5))) (l5 : K.lookup f5 = some ⟨oc5, od5, .func (PySem.W.fnOf "_law_source" "_law_source" (defArgs s_law_source) (defBody s_law_source) (defScope s_law_source) .none kV5 dc5 pm5 an5 cd5 ct5), sl5⟩) (c5 : PySem.W.codeIn K cd5 "_law_source" = true) (k5 : PySem.W.keepIn K (.ref f5) = true)
    {f6 : Addr} {od6 an6 : Option Addr} {sl6 : Array (Option Value)} {oc6 kV6 dc6 pm6 cd6 ct6 : Value}
    (a6 : PySem.W.nsIn K mainGlobals "_law_pick" = some (some (.ref f6))) (l6 : K.lookup f6 = some ⟨oc6, od6, .func (PySem.W.fnOf "_law_pick" "_law_pick" (defArgs s_law_pick) (defBody s_law_pick) (defScope s_law_pick) .none kV6 dc6 pm6 an6 cd6 ct6), sl6⟩) (c6 : PySem.W.codeIn K cd6 "_law_pick" = true) (k6 : PySem.W.keepIn K (.ref f6) = true)
    {f7 : Addr} {od7 an7 : Option Addr} {sl7 : Array (Option Value)} {oc7 kV7 dc7 pm7 cd7 ct7 : Value}
    (a7 : PySem.W.nsIn K mainGlobals "_law_within" = some (some (.ref f7))) (l7 : K.lookup f7 = some ⟨oc7, od7, .func (PySem.W.fnOf "_law_within" "_law_within" (defArgs s_law_within) (defBody s_law_within) (defScope s_law_within) .none kV7 dc7 pm7 an7 cd7 ct7), sl7⟩) (c7 : PySem.W.codeIn K cd7 "_law_within" = true) (k7 : PySem.W.keepIn K (.ref f7) = true)
    {f8 : Addr} {od8 an8 : Option Addr} {sl8 : Array (Option Value)} {oc8 kV8 dc8 pm8 cd8 ct8 : Value}
    (a8 : PySem.W.nsIn K mainGlobals "_law_one" = some (some (.ref f8))) (l8 : K.lookup f8 = some ⟨oc8, od8, .func (PySem.W.fnOf "_law_one" "_law_one" (defArgs s_law_one) (defBody s_law_one) (defScope s_law_one) .none kV8 dc8 pm8 an8 cd8 ct8), sl8⟩) (c8 : PySem.W.codeIn K cd8 "_law_one" = true) (k8 : PySem.W.keepIn K (.ref f8) = true)
    {f9 : Addr} {od9 an9 : Option Addr} {sl9 : Array (Option Value)} {oc9 kV9 dc9 pm9 cd9 ct9 : Value}
    (a9 : PySem.W.nsIn K mainGlobals "_law_shuffled" = some (some (.ref f9))) (l9 : K.lookup f9 = some ⟨oc9, od9, .func (PySem.W.fnOf "_law_shuffled" "_law_shuffled" (defArgs s_law_shuffled) (defBody s_law_shuffled) (defScope s_law_shuffled) .none kV9 dc9 pm9 an9 cd9 ct9), sl9⟩) (c9 : PySem.W.codeIn K cd9 "_law_shuffled" = true) (k9 : PySem.W.keepIn K (.ref f9) = true)
    {f10 : Addr} {od10 an10 : Option Addr} {sl10 : Array (Option Value)} {oc10 kV10 dc10 pm10 cd10 ct10 : Value}
    (a10 : PySem.W.nsIn K mainGlobals "_law_same" = some (some (.ref f10))) (l10 : K.lookup f10 = some ⟨oc10, od10, .func (PySem.W.fnOf "_law_same" "_law_same" (defArgs s_law_same) (defBody s_law_same) (defScope s_law_same) .none kV10 dc10 pm10 an10 cd10 ct10), sl10⟩) (c10 : PySem.W.codeIn K cd10 "_law_same" = true) (k10 : PySem.W.keepIn K (.ref f10) = true)
    {f11 : Addr} {od11 an11 : Option Addr} {sl11 : Array (Option Value)} {oc11 kV11 dc11 pm11 cd11 ct11 : Value}
    (a11 : PySem.W.nsIn K mainGlobals "_law_d_gcd" = some (some (.ref f11))) (l11 : K.lookup f11 = some ⟨oc11, od11, .func (PySem.W.fnOf "_law_d_gcd" "_law_d_gcd" (defArgs s_law_d_gcd) (defBody s_law_d_gcd) (defScope s_law_d_gcd) .none kV11 dc11 pm11 an11 cd11 ct11), sl11⟩) (c11 : PySem.W.codeIn K cd11 "_law_d_gcd" = true) (k11 : PySem.W.keepIn K (.ref f11) = true)
    {f12 : Addr} {od12 an12 : Option Addr} {sl12 : Array (Option Value)} {oc12 kV12 dc12 pm12 cd12 ct12 : Value}
    (a12 : PySem.W.nsIn K mainGlobals "_law_d_modulo" = some (some (.ref f12))) (l12 : K.lookup f12 = some ⟨oc12, od12, .func (PySem.W.fnOf "_law_d_modulo" "_law_d_modulo" (defArgs s_law_d_modulo) (defBody s_law_d_modulo) (defScope s_law_d_modulo) .none kV12 dc12 pm12 an12 cd12 ct12), sl12⟩) (c12 : PySem.W.codeIn K cd12 "_law_d_modulo" = true) (k12 : PySem.W.keepIn K (.ref f12) = true)
    {f13 : Addr} {od13 an13 : Option Addr} {sl13 : Array (Option Value)} {oc13 kV13 dc13 pm13 cd13 ct13 : Value}
    (a13 : PySem.W.nsIn K mainGlobals "_law_d_conditions" = some (some (.ref f13))) (l13 : K.lookup f13 = some ⟨oc13, od13, .func (PySem.W.fnOf "_law_d_conditions" "_law_d_conditions" (defArgs s_law_d_conditions) (defBody s_law_d_conditions) (defScope s_law_d_conditions) .none kV13 dc13 pm13 an13 cd13 ct13), sl13⟩) (c13 : PySem.W.codeIn K cd13 "_law_d_conditions" = true) (k13 : PySem.W.keepIn K (.ref f13) = true)
    {f14 : Addr} {od14 an14 : Option Addr} {sl14 : Array (Option Value)} {oc14 kV14 dc14 pm14 cd14 ct14 : Value}
    (a14 : PySem.W.nsIn K mainGlobals "_law_d_allmeet" = some (some (.ref f14))) (l14 : K.lookup f14 = some ⟨oc14, od14, .func (PySem.W.fnOf "_law_d_allmeet" "_law_d_allmeet" (defArgs s_law_d_allmeet) (defBody s_law_d_allmeet) (defScope s_law_d_allmeet) .none kV14 dc14 pm14 an14 cd14 ct14), sl14⟩) (c14 : PySem.W.codeIn K cd14 "_law_d_allmeet" = true) (k14 : PySem.W.keepIn K (.ref f14) = true)
    {f15 : Addr} {od15 an15 : Option Addr} {sl15 : Array (Option Value)} {oc15 kV15 dc15 pm15 cd15 ct15 : Value}
    (a15 : PySem.W.nsIn K mainGlobals "_law_d_fits" = some (some (.ref f15))) (l15 : K.lookup f15 = some ⟨oc15, od15, .func (PySem.W.fnOf "_law_d_fits" "_law_d_fits" (defArgs s_law_d_fits) (defBody s_law_d_fits) (defScope s_law_d_fits) .none kV15 dc15 pm15 an15 cd15 ct15), sl15⟩) (c15 : PySem.W.codeIn K cd15 "_law_d_fits" = true) (k15 : PySem.W.keepIn K (.ref f15) = true)
    {f16 : Addr} {od16 an16 : Option Addr} {sl16 : Array (Option Value)} {oc16 kV16 dc16 pm16 cd16 ct16 : Value}
    (a16 : PySem.W.nsIn K mainGlobals "_law_d_right" = some (some (.ref f16))) (l16 : K.lookup f16 = some ⟨oc16, od16, .func (PySem.W.fnOf "_law_d_right" "_law_d_right" (defArgs s_law_d_right) (defBody s_law_d_right) (defScope s_law_d_right) .none kV16 dc16 pm16 an16 cd16 ct16), sl16⟩) (c16 : PySem.W.codeIn K cd16 "_law_d_right" = true) (k16 : PySem.W.keepIn K (.ref f16) = true)
    {f17 : Addr} {od17 an17 : Option Addr} {sl17 : Array (Option Value)} {oc17 kV17 dc17 pm17 cd17 ct17 : Value}
    (a17 : PySem.W.nsIn K mainGlobals "law" = some (some (.ref f17))) (l17 : K.lookup f17 = some ⟨oc17, od17, .func (PySem.W.fnOf "law" "law" (defArgs s_law) (defBody s_law) (defScope s_law) .none kV17 dc17 pm17 an17 cd17 ct17), sl17⟩) (c17 : PySem.W.codeIn K cd17 "law" = true) (k17 : PySem.W.keepIn K (.ref f17) = true)
    (z_abs : PySem.W.nsIn K mainGlobals "abs" = some none)
    (z_all : PySem.W.nsIn K mainGlobals "all" = some none)
    (z_bool : PySem.W.nsIn K mainGlobals "bool" = some none)
    (z_int : PySem.W.nsIn K mainGlobals "int" = some none)
    (z_isinstance : PySem.W.nsIn K mainGlobals "isinstance" = some none)
    (z_len : PySem.W.nsIn K mainGlobals "len" = some none)
    (z_list : PySem.W.nsIn K mainGlobals "list" = some none)
    (z_min : PySem.W.nsIn K mainGlobals "min" = some none)
    (z_range : PySem.W.nsIn K mainGlobals "range" = some none)
    (z_tuple : PySem.W.nsIn K mainGlobals "tuple" = some none)
    : ∃ fd : FuncData, (∀ (s : Shared) (u : Value), BindsTo s fd ⟨[u], []⟩ [("script", u)]) ∧ ∀ base : Heap, K.In base → base.Ns mainGlobals mg → FnOk (P w) w K mg base (L2.CX (P w) w) 4 fa fd ["script"] (spD K T 1 F_law) := by
  have t_common : TxtD K mg "common" s_common ["a", "b"] := TxtD.mk' X G a0 l0 c0 k0 fun _ _ _ _ _ _ us hl => match us, hl with | [_, _], _ => rfl
  have t_alike : TxtD K mg "alike" s_alike ["a", "b", "grain"] := TxtD.mk' X G a1 l1 c1 k1 fun _ _ _ _ _ _ us hl => match us, hl with | [_, _, _], _ => rfl
  have t_inverse : TxtD K mg "inverse" s_inverse ["number", "grain"] := TxtD.mk' X G a2 l2 c2 k2 fun _ _ _ _ _ _ us hl => match us, hl with | [_, _], _ => rfl
  have t_both : TxtD K mg "both" s_both ["first", "second"] := TxtD.mk' X G a3 l3 c3 k3 fun _ _ _ _ _ _ us hl => match us, hl with | [_, _], _ => rfl
  have t_meet_numbers : TxtD K mg "meet_numbers" s_meet_numbers ["rows"] := TxtD.mk' X G a4 l4 c4 k4 fun _ _ _ _ _ _ us hl => match us, hl with | [_], _ => rfl
  have t_law_source : TxtD K mg "_law_source" s_law_source ["script", "at"] := TxtD.mk' X G a5 l5 c5 k5 fun _ _ _ _ _ _ us hl => match us, hl with | [_, _], _ => rfl
  have t_law_pick : TxtD K mg "_law_pick" s_law_pick ["s", "many"] := TxtD.mk' X G a6 l6 c6 k6 fun _ _ _ _ _ _ us hl => match us, hl with | [_, _], _ => rfl
  have t_law_within : TxtD K mg "_law_within" s_law_within ["s", "low", "high"] := TxtD.mk' X G a7 l7 c7 k7 fun _ _ _ _ _ _ us hl => match us, hl with | [_, _, _], _ => rfl
  have t_law_one : TxtD K mg "_law_one" s_law_one ["s", "things"] := TxtD.mk' X G a8 l8 c8 k8 fun _ _ _ _ _ _ us hl => match us, hl with | [_, _], _ => rfl
  have t_law_shuffled : TxtD K mg "_law_shuffled" s_law_shuffled ["s", "things"] := TxtD.mk' X G a9 l9 c9 k9 fun _ _ _ _ _ _ us hl => match us, hl with | [_, _], _ => rfl
  have t_law_same : TxtD K mg "_law_same" s_law_same ["answer", "due"] := TxtD.mk' X G a10 l10 c10 k10 fun _ _ _ _ _ _ us hl => match us, hl with | [_, _], _ => rfl
  have t_law_d_gcd : TxtD K mg "_law_d_gcd" s_law_d_gcd ["a", "b"] := TxtD.mk' X G a11 l11 c11 k11 fun _ _ _ _ _ _ us hl => match us, hl with | [_, _], _ => rfl
  have t_law_d_modulo : TxtD K mg "_law_d_modulo" s_law_d_modulo ["a", "d"] := TxtD.mk' X G a12 l12 c12 k12 fun _ _ _ _ _ _ us hl => match us, hl with | [_, _], _ => rfl
  have t_law_d_conditions : TxtD K mg "_law_d_conditions" s_law_d_conditions ["s", "most", "far"] := TxtD.mk' X G a13 l13 c13 k13 fun _ _ _ _ _ _ us hl => match us, hl with | [_, _, _], _ => rfl
  have t_law_d_allmeet : TxtD K mg "_law_d_allmeet" s_law_d_allmeet ["y", "rows"] := TxtD.mk' X G a14 l14 c14 k14 fun _ _ _ _ _ _ us hl => match us, hl with | [_, _], _ => rfl
  have t_law_d_fits : TxtD K mg "_law_d_fits" s_law_d_fits ["rows"] := TxtD.mk' X G a15 l15 c15 k15 fun _ _ _ _ _ _ us hl => match us, hl with | [_], _ => rfl
  have t_law_d_right : TxtD K mg "_law_d_right" s_law_d_right ["rows", "told"] := TxtD.mk' X G a16 l16 c16 k16 fun _ _ _ _ _ _ us hl => match us, hl with | [_, _], _ => rfl
  have t_law : TxtD K mg "law" s_law ["script"] := TxtD.mk' X G a17 l17 c17 k17 fun _ _ _ _ _ _ us hl => match us, hl with | [_], _ => rfl
  have m_abs := PySem.W.mg_none_of X G z_abs
  have m_all := PySem.W.mg_none_of X G z_all
  have m_bool := PySem.W.mg_none_of X G z_bool
  have m_int := PySem.W.mg_none_of X G z_int
  have m_isinstance := PySem.W.mg_none_of X G z_isinstance
  have m_len := PySem.W.mg_none_of X G z_len
  have m_list := PySem.W.mg_none_of X G z_list
  have m_min := PySem.W.mg_none_of X G z_min
  have m_range := PySem.W.mg_none_of X G z_range
  have m_tuple := PySem.W.mg_none_of X G z_tuple
  refine law_F hfa t_law fun base => ?_
  have D_common := d_common (P := P w) (w := w) (base := base) (T := T) t_common m_abs m_int 
  have D_alike := d_alike (P := P w) (w := w) (base := base) (T := T) t_alike m_int 
  have D_inverse := d_inverse (P := P w) (w := w) (base := base) (T := T) t_inverse m_int 
  have D_both := d_both (P := P w) (w := w) (base := base) (T := T) t_both m_int D_alike D_common D_inverse
  have D_meet_numbers := d_meet_numbers (P := P w) (w := w) (base := base) (T := T) t_meet_numbers  D_both
  have D_law_source := d_law_source (P := P w) (w := w) (base := base) (T := T) t_law_source m_abs m_int m_len m_min m_range 
  have D_law_pick := d_law_pick (P := P w) (w := w) (base := base) (T := T) t_law_pick m_int 
  have D_law_within := d_law_within (P := P w) (w := w) (base := base) (T := T) t_law_within  D_law_pick
  have D_law_one := d_law_one (P := P w) (w := w) (base := base) (T := T) t_law_one m_len D_law_pick
  have D_law_shuffled := d_law_shuffled (P := P w) (w := w) (base := base) (T := T) t_law_shuffled m_len m_list m_range D_law_pick
  have D_law_same := d_law_same (P := P w) (w := w) (base := base) (T := T) t_law_same m_bool m_int m_isinstance 
  have D_law_d_gcd := d_law_d_gcd (P := P w) (w := w) (base := base) (T := T) t_law_d_gcd m_abs m_int m_range 
  have D_law_d_modulo := d_law_d_modulo (P := P w) (w := w) (base := base) (T := T) t_law_d_modulo m_int 
  have D_law_d_conditions := d_law_d_conditions (P := P w) (w := w) (base := base) (T := T) t_law_d_conditions m_range D_law_within D_law_pick D_law_one
  have D_law_d_allmeet := d_law_d_allmeet (P := P w) (w := w) (base := base) (T := T) t_law_d_allmeet m_all D_law_d_modulo
  have D_law_d_fits := d_law_d_fits (P := P w) (w := w) (base := base) (T := T) t_law_d_fits  D_law_d_gcd D_law_d_modulo
  have D_law_d_right := d_law_d_right (P := P w) (w := w) (base := base) (T := T) t_law_d_right m_bool m_isinstance m_len m_tuple D_law_d_fits D_law_d_gcd D_law_same D_law_d_allmeet
  have D_law := d_law (P := P w) (w := w) (base := base) (T := T) t_law m_int m_list m_range m_tuple D_law_source D_law_pick D_law_d_conditions D_meet_numbers D_law_d_right D_law_shuffled D_law_d_allmeet D_law_d_modulo D_law_within
  exact D_law
end Mini.K22

set_option linter.all false
/-! L_k22a: numbers: greatest common divisors, conditions that meet. -/
namespace Mini.K22
theorem bez (a b : Nat) : ∃ p q : Int, (a : Int) * p + b * q = (Nat.gcd a b : Nat) := by
  induction a, b using Nat.gcd.induction with
  | H0 n => exact ⟨0, 1, by simp⟩
  | H1 m n hm ih =>
    obtain ⟨p, q, e⟩ := ih
    refine ⟨q - (n / m : Nat) * p, p, ?_⟩
    rw [Nat.gcd_rec m n, ← e]
    have : (n : Int) = m * (n / m : Nat) + (n % m : Nat) := by exact_mod_cast (Nat.div_add_mod n m).symm
    grind
/-- the ideals of the whole numbers: (a ∩ b) + d holds what a + d and b + d both hold -/
theorem lattice {a b d : Nat} {z : Int} (h1 : ((Nat.gcd a d : Nat) : Int) ∣ z) (h2 : ((Nat.gcd b d : Nat) : Int) ∣ z) : ((Nat.gcd (Nat.lcm a b) d : Nat) : Int) ∣ z := by
  by_cases h0 : Nat.gcd a b = 0
  · obtain ⟨rfl, rfl⟩ := Nat.gcd_eq_zero_iff.mp h0
    simpa using h1
  · obtain ⟨u, hu⟩ := h1
    obtain ⟨t, ht⟩ := h2
    obtain ⟨p, q, e⟩ := bez a b
    obtain ⟨p1, q1, e1⟩ := bez a d
    obtain ⟨p2, q2, e2⟩ := bez b d
    obtain ⟨a', ha⟩ := Nat.gcd_dvd_left a b
    obtain ⟨b', hb⟩ := Nat.gcd_dvd_right a b
    obtain ⟨l, hl⟩ : Nat.gcd (Nat.lcm a b) d ∣ Nat.lcm a b := Nat.gcd_dvd_left _ _
    obtain ⟨k, hk⟩ : Nat.gcd (Nat.lcm a b) d ∣ d := Nat.gcd_dvd_right _ _
    have hL1 : Nat.lcm a b = a * b' := by
      unfold Nat.lcm
      refine Nat.div_eq_of_eq_mul_right (by omega) ?_
      conv => lhs; rw [hb]
      rw [← Nat.mul_assoc, Nat.mul_comm a, Nat.mul_assoc]
    have hL2 : Nat.lcm a b = b * a' := by
      unfold Nat.lcm
      refine Nat.div_eq_of_eq_mul_right (by omega) ?_
      conv => lhs; rw [ha]
      rw [Nat.mul_assoc, Nat.mul_comm b]
    generalize hG : Nat.gcd a b = G at *
    generalize hH : Nat.gcd (Nat.lcm a b) d = H at *
    generalize hLL : Nat.lcm a b = L at *
    have hG0 : (G : Int) ≠ 0 := by omega
    have ha' : (a : Int) = G * a' := by exact_mod_cast ha
    have hb' : (b : Int) = G * b' := by exact_mod_cast hb
    have one : (a' : Int) * p + b' * q = 1 := by
      have : (G : Int) * (a' * p + b' * q) = G * 1 := by rw [ha', hb'] at e; grind
      exact Int.eq_of_mul_eq_mul_left hG0 this
    have hL1' : (L : Int) = a * b' := by exact_mod_cast hL1
    have hL2' : (L : Int) = b * a' := by exact_mod_cast hL2
    have hl' : (L : Int) = H * l := by exact_mod_cast hl
    have hk' : (d : Int) = H * k := by exact_mod_cast hk
    refine ⟨l * (p2 * t * p) + k * (q2 * t * a' * p) + (l * (p1 * u * q) + k * (q1 * u * b' * q)), ?_⟩
    have : z = z * (a' * p) + z * (b' * q) := by rw [← Int.mul_add, one, Int.mul_one]
    have z1 : z = (b * p2 + d * q2) * t := by rw [ht, e2]
    have z2 : z = (a * p1 + d * q1) * u := by rw [hu, e1]
    have w1 : z * (a' * p) = L * (p2 * t * p) + d * (q2 * t * a' * p) := by rw [z1, hL2']; grind
    have w2 : z * (b' * q) = L * (p1 * u * q) + d * (q1 * u * b' * q) := by rw [z2, hL1']; grind
    rw [this, w1, w2, hl', hk']
    grind
/-- conditions as pairs; what meets them all -/
def Meets (y : Int) (rows : List (Int × Int)) : Prop := ∀ p ∈ rows, p.2 ∣ y - p.1
instance (y : Int) (rows : List (Int × Int)) : Decidable (Meets y rows) := inferInstanceAs (Decidable (∀ p ∈ rows, _))
/-- (x, m) tells all that meets rows -/
structure NF (rows : List (Int × Int)) (x m : Int) : Prop where
  iff : ∀ y, Meets y rows ↔ m ∣ y - x
  low : m = 0 ∨ (0 ≤ x ∧ x < m)
theorem NF.pos {rows : List (Int × Int)} {x m : Int} (h : NF rows x m) : 0 ≤ m := by rcases h.low with e | ⟨h1, h2⟩ <;> omega
theorem NF.self {rows : List (Int × Int)} {x m : Int} (h : NF rows x m) : Meets x rows := (h.iff x).mpr (by simp)
theorem NF.uniq {rows rows' : List (Int × Int)} {x m x' m' : Int} (h : NF rows x m) (h' : NF rows' x' m') (e : ∀ y, Meets y rows ↔ Meets y rows') : x = x' ∧ m = m' := by
  have i : ∀ y, m ∣ y - x ↔ m' ∣ y - x' := fun y => (h.iff y).symm.trans ((e y).trans (h'.iff y))
  have p := h.pos
  have p' := h'.pos
  have d0 : m' ∣ x - x' := (i x).mp (by simp)
  have d0' : m ∣ x' - x := (i x').mpr (by simp)
  have d1 : m' ∣ m := by
    have h2 : m' ∣ (x + m) - x' := (i (x + m)).mp ⟨1, by omega⟩
    have h3 := Int.dvd_sub h2 d0
    rwa [show x + m - x' - (x - x') = m by omega] at h3
  have d2 : m ∣ m' := by
    have h2 : m ∣ (x' + m') - x := (i (x' + m')).mpr ⟨1, by omega⟩
    have h3 := Int.dvd_sub h2 d0'
    rwa [show x' + m' - x - (x' - x) = m' by omega] at h3
  have em : m = m' := Int.dvd_antisymm p p' d2 d1
  refine ⟨?_, em⟩
  subst em
  rcases h.low with e0 | ⟨l1, l2⟩
  · subst e0
    have := Int.zero_dvd.mp d0
    omega
  · rcases h'.low with e0 | ⟨l3, l4⟩
    · omega
    · have h1 := Int.emod_emod_of_dvd x (Int.dvd_refl m)
      have := Int.emod_eq_emod_iff_emod_sub_eq_zero.mpr (Int.emod_eq_zero_of_dvd d0)
      rw [Int.emod_eq_of_lt l1 l2, Int.emod_eq_of_lt l3 l4] at this
      exact this
theorem meets_nil (y : Int) : Meets y [] := fun p h => by simp at h
theorem meets_cons (y : Int) (p : Int × Int) (r : List (Int × Int)) : Meets y (p :: r) ↔ p.2 ∣ y - p.1 ∧ Meets y r := by simp [Meets]
theorem meets_append (y : Int) (a b : List (Int × Int)) : Meets y (a ++ b) ↔ Meets y a ∧ Meets y b := by
  simp only [Meets, List.mem_append]
  exact ⟨fun h => ⟨fun p q => h p (.inl q), fun p q => h p (.inr q)⟩, fun h p q => q.elim (h.1 p) (h.2 p)⟩
theorem meets_perm {a b : List (Int × Int)} (h : a.Perm b) (y : Int) : Meets y a ↔ Meets y b := ⟨fun q p hp => q p (h.mem_iff.mpr hp), fun q p hp => q p (h.mem_iff.mp hp)⟩
theorem NF.nil : NF [] 0 1 := ⟨fun y => ⟨fun _ => Int.one_dvd _, fun _ => meets_nil y⟩, .inr (by decide)⟩
/-- two conditions in one -/
structure Join (a d b e x m : Int) : Prop where
  left : d ∣ x - a
  right : e ∣ x - b
  lcm : m = (Int.lcm d e : Nat)
  low : m = 0 ∨ (0 ≤ x ∧ x < m)
  from' : x = a ∨ x = b ∨ (0 ≤ x ∧ x < m)
theorem dvd_sub3 {d a b c : Int} (h1 : d ∣ a - b) (h2 : d ∣ b - c) : d ∣ a - c := by
  have := Int.dvd_add h1 h2
  rwa [show a - b + (b - c) = a - c by omega] at this
theorem dvd_sub_symm {d a b : Int} (h : d ∣ a - b) : d ∣ b - a := by
  have := Int.dvd_neg.mpr h
  rwa [show -(a - b) = b - a by omega] at this
theorem NF.join {rows : List (Int × Int)} {a d b e x m : Int} (h : NF rows a d) (j : Join a d b e x m) : NF (rows ++ [(b, e)]) x m := by
  refine ⟨fun y => ?_, j.low⟩
  rw [meets_append, h.iff, meets_cons, j.lcm]
  have l1 : d ∣ ((Int.lcm d e : Nat) : Int) := Int.dvd_lcm_left ..
  have l2 : e ∣ ((Int.lcm d e : Nat) : Int) := Int.dvd_lcm_right ..
  constructor
  · intro ⟨h1, h2, _⟩
    exact Int.coe_lcm_dvd (dvd_sub3 h1 (dvd_sub_symm j.left)) (dvd_sub3 h2 (dvd_sub_symm j.right))
  · intro h
    exact ⟨dvd_sub3 (Int.dvd_trans l1 h) j.left, dvd_sub3 (Int.dvd_trans l2 h) j.right, meets_nil y⟩
theorem NF.none {rows : List (Int × Int)} {a d b e : Int} (h : NF rows a d) (j : ¬ ((Int.gcd d e : Nat) : Int) ∣ b - a) (y : Int) : ¬ Meets y (rows ++ [(b, e)]) := by
  intro q
  rw [meets_append, h.iff, meets_cons] at q
  have g1 : ((Int.gcd d e : Nat) : Int) ∣ d := Int.gcd_dvd_left ..
  have g2 : ((Int.gcd d e : Nat) : Int) ∣ e := Int.gcd_dvd_right ..
  exact j (dvd_sub3 (dvd_sub_symm (Int.dvd_trans g2 q.2.1)) (Int.dvd_trans g1 q.1))
/-- two by two -/
def Pair (rows : List (Int × Int)) : Prop := ∀ p ∈ rows, ∀ q ∈ rows, ((Int.gcd p.2 q.2 : Nat) : Int) ∣ p.1 - q.1
theorem Meets.pair {y : Int} {rows : List (Int × Int)} (h : Meets y rows) : Pair rows := fun p hp q hq => by
  have g1 : ((Int.gcd p.2 q.2 : Nat) : Int) ∣ p.2 := Int.gcd_dvd_left ..
  have g2 : ((Int.gcd p.2 q.2 : Nat) : Int) ∣ q.2 := Int.gcd_dvd_right ..
  exact dvd_sub3 (dvd_sub_symm (Int.dvd_trans g1 (h p hp))) (Int.dvd_trans g2 (h q hq))
/-- all moduli's least common multiple -/
def lcms : List (Int × Int) → Nat → Nat
  | [], n => n
  | p :: r, n => lcms r (Nat.lcm n p.2.natAbs)
theorem lcms_gcd {d : Nat} {z : Int} : ∀ (rows : List (Int × Int)) (n : Nat), ((Nat.gcd n d : Nat) : Int) ∣ z → (∀ p ∈ rows, ((Nat.gcd p.2.natAbs d : Nat) : Int) ∣ z) → ((Nat.gcd (lcms rows n) d : Nat) : Int) ∣ z
  | [], n, h, _ => h
  | p :: r, n, h, h' => lcms_gcd r _ (lattice h (h' p (by simp))) fun q hq => h' q (by simp [hq])
theorem lcms_append (a b : List (Int × Int)) : ∀ n, lcms (a ++ b) n = lcms b (lcms a n) := by
  induction a with
  | nil => intro n; rfl
  | cons p a ih => intro n; exact ih _
/-- two by two is enough for the next -/
theorem Pair.next {rows : List (Int × Int)} {x m b e : Int} (h : NF rows x m) (hm : m = (lcms rows 1 : Nat)) (hp : Pair (rows ++ [(b, e)])) : ((Int.gcd m e : Nat) : Int) ∣ b - x := by
  refine dvd_sub_symm ?_
  subst hm
  refine lcms_gcd (d := e.natAbs) rows 1 (by simp) fun p hp' => ?_
  have h1 := hp p (by simp [hp']) (b, e) (by simp)
  have h2 := h.self p hp'
  have g1 : ((Int.gcd p.2 e : Nat) : Int) ∣ p.2 := Int.gcd_dvd_left ..
  exact dvd_sub3 (Int.dvd_trans g1 h2) h1
end Mini.K22

set_option linter.all false
set_option maxRecDepth 100000
/-! L_k22b: the program's own defs. -/
namespace Mini.K22
open Mini PySem
theorem fuel_pow : 2 ^ 900 < fuel := by decide +kernel
theorem fuel_of {n : Nat} (h : n < 2 ^ 900) : n < fuel := Nat.lt_trans h fuel_pow
theorem common_go (d0 d1 : Option Vl) (om : List Cell) : ∀ (k b a : Nat), b < k →
    whileGo (tTru (eVar 3)) (sPar [2, 3] [(eVar 3), (eOp oMod (eB bInt (aCons (eVar 2) aNil)) (eVar 3))]) k ⟨[d0, d1, some (.sh (.int a)), some (.sh (.int b))], om⟩ = .nx ⟨[d0, d1, some (.sh (.int (Nat.gcd a b : Nat))), some (.sh (.int 0))], om⟩ := by
  intro k
  induction k with
  | zero => intro b a h; omega
  | succ k ih =>
    intro b a h
    rw [x_whileS]
    by_cases hb : b = 0
    · subst hb; simp
    · have hp : (0 : Int) < b := by omega
      have hm := Nat.mod_lt a (show 0 < b by omega)
      have e := ih (a % b) b (by omega)
      rw [show Nat.gcd b (a % b) = Nat.gcd a b by rw [Nat.gcd_comm a b, Nat.gcd_rec b a, Nat.gcd_comm]] at e
      rw [← e]
      simp [hb, show 0 < b by omega]
theorem common_ok (a b : Int) (om : List Cell) (hb : b.natAbs < 2 ^ 900) : F_common [.int a, .int b] om = .ok (.sh (.int (Int.gcd a b : Nat))) om := by
  have e := common_go (some (.sh (.int a))) (some (.sh (.int b))) om fuel b.natAbs a.natAbs (fuel_of hb)
  simp [F_common, e]
  rfl
theorem alike_ok (a b g : Int) (om : List Cell) (hg : 0 ≤ g) : F_alike [.int a, .int b, .int g] om = .ok (.sh (.bl (decide (g ∣ a - b)))) om := by
  by_cases h : g = 0
  · subst h
    have : (a == b) = decide ((0 : Int) ∣ a - b) := by
      rw [Bool.eq_iff_iff]
      simp [Int.zero_dvd, Int.sub_eq_zero]
    simp [F_alike, this]
  · have hp : 0 < g := by omega
    have : ((a - b) % g == 0) = decide (g ∣ a - b) := by
      rw [Bool.eq_iff_iff]
      simp [Int.dvd_iff_emod_eq_zero]
    simp [F_alike, h, hp, this]
abbrev invB : EvS := (sSeq (sSet 6 (eOp oDiv (eVar 2) (eVar 3))) (sSeq (sPar [2, 3] [(eVar 3), (eOp oSub (eVar 2) (eOp oMul (eVar 6) (eVar 3)))]) (sPar [4, 5] [(eVar 5), (eOp oSub (eVar 4) (eOp oMul (eVar 6) (eVar 5)))])))
theorem small_mul {a b : Nat} {i j : Int} (ha : i.natAbs < 2 ^ a) (hb : j.natAbs < 2 ^ b) (h0 : 0 < a := by decide) (h1 : 0 < b := by decide) (h : a + b ≤ 1000000 := by decide) : oMul (.int i) (.int j) = some (.sh (.int (i * j))) := v_mul (wordOk_b a b ha hb h0 h1 h)
theorem inv_go (d0 d1 : Option Vl) (om : List Cell) (N : Int) (g : Nat) (hg : g < 2 ^ 900) : ∀ (k b a : Nat) (d6 : Option Vl) (σ : Int) (p q : Nat), b < k → a < 2 ^ 900 → b ≤ g → (σ = 1 ∨ σ = -1) → q * a + p * b = g → (g : Int) ∣ σ * p * N - a → (g : Int) ∣ -σ * q * N - b → Nat.gcd a b = 1 →
    ∃ x d5 d6', whileGo (tTru (eVar 3)) invB k ⟨[d0, d1, some (.sh (.int a)), some (.sh (.int b)), some (.sh (.int (σ * p))), some (.sh (.int (-σ * q))), d6], om⟩ = .nx ⟨[d0, d1, some (.sh (.int 1)), some (.sh (.int 0)), some (.sh (.int x)), d5, d6'], om⟩ ∧ (g : Int) ∣ x * N - 1 := by
  intro k
  induction k with
  | zero => intro b a d6 σ p q h; omega
  | succ k ih =>
    intro b a d6 σ p q h ha hbg hσ hs h1 h2 h3
    rw [x_whileS]
    by_cases hb : b = 0
    · subst hb
      have : a = 1 := by simpa using h3
      subst this
      exact ⟨σ * p, some (.sh (.int (-σ * q))), d6, by simp, h1⟩
    · have hp : (0 : Int) < b := by omega
      have hpn : 0 < b := by omega
      have hm := Nat.mod_lt a hpn
      have hda := Nat.div_add_mod a b
      have hle : a / b ≤ a := Nat.div_le_self a b
      have hleb : a / b * b ≤ a := Nat.div_mul_le_self a b
      have hq : a / b * q ≤ g := by
        refine Nat.le_trans ?_ (show q * a ≤ g by omega)
        rw [Nat.mul_comm]
        exact Nat.mul_le_mul_left q hle
      have hq' : a / b = 0 ∨ q ≤ g := by
        rcases Nat.eq_zero_or_pos (a / b) with h | h
        · exact .inl h
        · exact .inr (Nat.le_trans (Nat.le_mul_of_pos_left q h) hq)
      have emod : (a : Int) - ((a / b : Nat) : Int) * (b : Int) = ((a % b : Nat) : Int) := by
        have : (a : Int) = b * (a / b : Nat) + (a % b : Nat) := by exact_mod_cast hda.symm
        rw [Int.mul_comm]
        omega
      have m1 : oMul (.int ((a / b : Nat) : Int)) (.int (b : Int)) = some (.sh (.int (((a / b : Nat) : Int) * (b : Int)))) := small_mul (a := 900) (b := 900) (by rw [Int.natAbs_natCast]; omega) (by omega)
      have m2 : oMul (.int ((a / b : Nat) : Int)) (.int (-σ * q)) = some (.sh (.int (((a / b : Nat) : Int) * (-σ * q)))) := by
        rcases hq' with h | h
        · rw [h]; exact v_mul_l (by decide)
        · refine small_mul (a := 900) (b := 900) (by rw [Int.natAbs_natCast]; omega) ?_
          rcases hσ with e | e <;> subst e <;> simp <;> omega
      obtain ⟨x, d5, d6', e, ex⟩ := ih (a % b) b (some (.sh (.int (a / b : Nat)))) (-σ) q (p + a / b * q) (by omega) (by omega) (by omega) (by omega) (by
          have h5 : (p + a / b * q) * b + q * (a % b) = q * (b * (a / b) + a % b) + p * b := by grind
          rw [h5, hda]; exact hs) h2 (by
          have h4 : (g : Int) ∣ (σ * p * N - a) - (a / b : Nat) * (-σ * q * N - b) := Int.dvd_sub h1 (Int.dvd_mul_of_dvd_right h2)
          have h5 : (σ * p * N - a) - ((a / b : Nat) : Int) * (-σ * q * N - b) = - -σ * ((p + a / b * q : Nat) : Int) * N - (a % b : Nat) := by
            rw [← emod]; push_cast; grind
          rwa [h5] at h4) (by rw [Nat.gcd_comm b, ← Nat.gcd_rec, Nat.gcd_comm]; exact h3)
      refine ⟨x, d5, d6', ?_, ex⟩
      rw [← e]
      have ed : (a : Int) / (b : Int) = ((a / b : Nat) : Int) := by norm_cast
      have er : σ * p - ((a / b : Nat) : Int) * (-σ * q) = - -σ * ((p + a / b * q : Nat) : Int) := by push_cast; grind
      simp only [x_seq, x_set, x_op, x_var, List.getElem?_cons_succ, List.getElem?_cons_zero, r_ok, d_sh, v_div hp (pow9000 (k := 900) (show (b : Int).natAbs < 2 ^ 900 by omega)), ed, t_ok, List.length_cons, List.length_nil, x_par, x_vals, x_vals0, m1, v_sub, emod, List.set_cons_succ, List.set_cons_zero, x_tru, tr_int, o_nx, setAll_cons, setAll_nil, m2, er, Nat.zero_add, Nat.reduceAdd, Nat.reduceLT, if_true, List.all_cons, List.all_nil, decide_true, Bool.and_self, Bool.and_true]
      simp [hb]
theorem inverse_ok (n g : Int) (om : List Cell) (hg : 0 < g) (hb : g.natAbs < 2 ^ 900) (hc : Int.gcd n g = 1) : ∃ x, F_inverse [.int n, .int g] om = .ok (.sh (.int x)) om ∧ 0 ≤ x ∧ x < g ∧ g ∣ x * n - 1 := by
  obtain ⟨G, rfl⟩ := Int.eq_ofNat_of_zero_le (Int.le_of_lt hg)
  have h0 : 0 ≤ n % (G : Int) := Int.emod_nonneg _ (by omega)
  have h1 : n % (G : Int) < G := Int.emod_lt_of_pos _ hg
  obtain ⟨A, hA⟩ := Int.eq_ofNat_of_zero_le h0
  have hgcd : Nat.gcd A G = 1 := by
    have : Int.gcd (n % (G : Int)) G = 1 := by
      rw [← hc, ← Int.gcd_sub_mul_right_left (G : Int) n (n / (G : Int))]
      congr 1
      have := Int.mul_ediv_add_emod n (G : Int)
      rw [Int.mul_comm] at this
      omega
    rw [hA] at this
    exact this
  obtain ⟨x, d5, d6, e, ex⟩ := inv_go (some (.sh (.int n))) (some (.sh (.int G))) om n G hb fuel G A none 1 1 0 (fuel_of hb) (by omega) (Nat.le_refl _) (.inl rfl) (by omega) (by
    have := Int.dvd_self_sub_emod (x := n) (m := (G : Int))
    rw [hA] at this
    simpa using this) (by simp) hgcd
  refine ⟨x % G, ?_, Int.emod_nonneg _ (by omega), Int.emod_lt_of_pos _ hg, ?_⟩
  · simp only [Int.one_mul, Int.natCast_one, Int.natCast_zero, Int.mul_zero] at e
    simp [F_inverse, show 0 < G by omega, hA, e]
  · have h2 : (G : Int) ∣ x - x % G := Int.dvd_self_sub_emod
    have h3 := Int.dvd_sub ex (Int.dvd_mul_of_dvd_left (c := n) h2)
    rwa [show x * n - 1 - (x - x % G) * n = x % G * n - 1 by grind] at h3
end Mini.K22

set_option linter.all false
set_option maxRecDepth 100000
/-! L_k22c: both, meet_numbers. -/
namespace Mini.K22
open Mini PySem
theorem both_ok (a d b e : Int) (om : List Cell) (hd : 0 ≤ d) (he : 0 ≤ e) (bd : d.natAbs < 2 ^ 400) (be : e.natAbs < 2 ^ 400) (ba : a.natAbs < 2 ^ 400) (bb : b.natAbs < 2 ^ 400) :
    (((Int.gcd d e : Nat) : Int) ∣ b - a ∧ ∃ x m, Join a d b e x m ∧ F_both [.tup [.int a, .int d], .tup [.int b, .int e]] om = .ok (.sh (.tup [.int x, .int m])) om) ∨
    (¬ ((Int.gcd d e : Nat) : Int) ∣ b - a ∧ F_both [.tup [.int a, .int d], .tup [.int b, .int e]] om = .ok (.sh .non) om) := by
  by_cases h : ((Int.gcd d e : Nat) : Int) ∣ b - a
  · refine .inl ⟨h, ?_⟩
    by_cases d0 : d = 0
    · subst d0
      have h' : e ∣ a - b := dvd_sub_symm (by simpa [Int.natAbs_dvd] using h)
      exact ⟨a, 0, ⟨by simp, h', by simp, .inl rfl, .inl rfl⟩, by simp [F_both, alike_ok a b e om he, h']⟩
    · by_cases e0 : e = 0
      · subst e0
        have h' : d ∣ b - a := by simpa [Int.natAbs_dvd] using h
        exact ⟨b, 0, ⟨h', by simp, by simp, .inl rfl, .inr (.inl rfl)⟩, by simp [F_both, alike_ok a b d om hd, dvd_sub_symm h', d0]⟩
      · obtain ⟨D, rfl⟩ := Int.eq_ofNat_of_zero_le hd
        obtain ⟨E, rfl⟩ := Int.eq_ofNat_of_zero_le he
        have hD : 0 < D := by omega
        have hE : 0 < E := by omega
        have bD : D < 2 ^ 400 := by simpa using bd
        have bE : E < 2 ^ 400 := by simpa using be
        have eG : Int.gcd (D : Int) (E : Int) = Nat.gcd D E := rfl
        have hG : 0 < Nat.gcd D E := Nat.gcd_pos_of_pos_left _ hD
        have gD : Nat.gcd D E ≤ D := Nat.le_of_dvd hD (Nat.gcd_dvd_left ..)
        have gE : Nat.gcd D E ≤ E := Nat.le_of_dvd hE (Nat.gcd_dvd_right ..)
        obtain ⟨D', hD'⟩ := Nat.gcd_dvd_left D E
        obtain ⟨E', hE'⟩ := Nat.gcd_dvd_right D E
        have cop : Nat.gcd D' E' = 1 := by
          have h1 := Nat.gcd_mul_left (Nat.gcd D E) D' E'
          rw [← hD', ← hE'] at h1
          exact Nat.eq_of_mul_eq_mul_left hG (by rw [Nat.mul_one]; exact h1.symm)
        have lc : Nat.lcm D E = D * E' := by
          unfold Nat.lcm
          refine Nat.div_eq_of_eq_mul_right hG ?_
          conv => lhs; rw [hE']
          rw [← Nat.mul_assoc, Nat.mul_comm D, Nat.mul_assoc]
        rw [eG] at h
        obtain ⟨z, hz⟩ := h
        generalize hGG : Nat.gcd D E = G at *
        have hD1 : D' ≤ D := by rw [hD']; exact Nat.le_mul_of_pos_left _ hG
        have hE1 : E' ≤ E := by rw [hE']; exact Nat.le_mul_of_pos_left _ hG
        have hE0 : 0 < E' := by rcases Nat.eq_zero_or_pos E' with h | h; · rw [h] at hE'; omega
                                exact h
        obtain ⟨v, hv, v0, v1, v2⟩ := inverse_ok (D' : Int) (E' : Int) om (by omega) (by rw [Int.natAbs_natCast]; exact Nat.lt_of_le_of_lt hE1 (Nat.lt_trans bE (by decide))) cop
        have iD : (D : Int) = G * D' := by exact_mod_cast hD'
        have iE : (E : Int) = G * E' := by exact_mod_cast hE'
        have hG' : (G : Int) ≠ 0 := by omega
        have q1 : (D : Int) / (G : Int) = D' := by rw [iD]; exact Int.mul_ediv_cancel_left _ hG'
        have q2 : (E : Int) / (G : Int) = E' := by rw [iE]; exact Int.mul_ediv_cancel_left _ hG'
        have q3 : (b - a) / (G : Int) = z := by rw [hz]; exact Int.mul_ediv_cancel_left _ hG'
        have q4 : (b - a) % (G : Int) = 0 := by rw [hz]; exact Int.mul_emod_right ..
        have bz : z.natAbs < 2 ^ 402 := by
          have h1 : z.natAbs ≤ (b - a).natAbs := by
            rw [hz, Int.natAbs_mul, Int.natAbs_natCast]
            exact Nat.le_mul_of_pos_left _ hG
          omega
        have s0 : 0 ≤ z * v % (E' : Int) := Int.emod_nonneg _ (by omega)
        have s1 : z * v % (E' : Int) < E' := Int.emod_lt_of_pos _ (by omega)
        have hm0 : 0 < (D : Int) * E' := Int.mul_pos (by omega) (by omega)
        have m1 : oMul (.int z) (.int v) = some (.sh (.int (z * v))) := small_mul (a := 402) (b := 400) bz (by omega)
        have m2 : oMul (.int (D : Int)) (.int (z * v % (E' : Int))) = some (.sh (.int ((D : Int) * (z * v % (E' : Int))))) := small_mul (a := 400) (b := 400) bd (by omega)
        have m3 : oMul (.int (D : Int)) (.int (E' : Int)) = some (.sh (.int ((D : Int) * (E' : Int)))) := small_mul (a := 400) (b := 400) bd (by omega)
        have dg : ∀ i : Int, oDiv (.int i) (.int (G : Int)) = some (.sh (.int (i / (G : Int)))) := fun i => v_div (by omega) (pow9000 (k := 400) (by omega))
        generalize hs : z * v % (E' : Int) = s at *
        refine ⟨(a + D * s) % (D * E'), D * E', ⟨?_, ?_, ?_, .inr ⟨Int.emod_nonneg _ (by omega), Int.emod_lt_of_pos _ hm0⟩, .inr (.inr ⟨Int.emod_nonneg _ (by omega), Int.emod_lt_of_pos _ hm0⟩)⟩, ?_⟩
        · have h1 : (D : Int) ∣ (a + D * s) - (a + D * s) % (D * E') := Int.dvd_trans (Int.dvd_mul_right ..) Int.dvd_self_sub_emod
          have h2 : (D : Int) ∣ (a + D * s) - a := ⟨s, by omega⟩
          exact dvd_sub3 (dvd_sub_symm h1) h2
        · have h1 : (E : Int) ∣ (a + D * s) - (a + D * s) % (D * E') := Int.dvd_trans ⟨D', by rw [iD, iE]; grind⟩ Int.dvd_self_sub_emod
          refine dvd_sub3 (dvd_sub_symm h1) ?_
          obtain ⟨t, ht⟩ : (E' : Int) ∣ z * v - s := by rw [← hs]; exact Int.dvd_self_sub_emod
          obtain ⟨r, hr⟩ := v2
          refine ⟨z * r - D' * t, ?_⟩
          rw [iE]
          have h3 : a + D * s - b = G * (D' * s - z) := by rw [iD]; grind
          rw [h3, Int.mul_assoc]
          congr 1
          have h4 : (D' : Int) * s = D' * (z * v) - D' * (E' * t) := by rw [← Int.mul_sub, ← ht]; congr 1; omega
          have h5 : z * (v * D' - 1) = z * (E' * r) := by rw [hr]
          grind
        · have : ((Int.lcm (D : Int) (E : Int) : Nat) : Int) = ((Nat.lcm D E : Nat) : Int) := rfl
          rw [this, lc]
          push_cast
          rfl
        · have cg : F_common [.int (D : Int), .int (E : Int)] om = .ok (.sh (.int (G : Int))) om := by
            rw [common_ok _ _ _ (by rw [Int.natAbs_natCast]; omega), eG]
          have hm0' : 0 < D * E' := by exact_mod_cast hm0
          simp [F_both, show D ≠ 0 by omega, show E ≠ 0 by omega, cg, show 0 < G by omega, q4, dg, q1, q2, q3, hv, m1, m2, m3, show 0 < E' by omega, hs, hm0]
  · refine .inr ⟨h, ?_⟩
    by_cases d0 : d = 0
    · subst d0
      have h' : ¬ e ∣ a - b := fun q => h (by simpa [Int.natAbs_dvd] using dvd_sub_symm q)
      simp [F_both, alike_ok a b e om he, h']
    · by_cases e0 : e = 0
      · subst e0
        have h' : ¬ d ∣ a - b := fun q => h (by simpa [Int.natAbs_dvd] using dvd_sub_symm q)
        simp [F_both, alike_ok a b d om hd, h', d0]
      · have cg := common_ok d e om (by omega)
        have hG : 0 < Int.gcd d e := Int.gcd_pos_of_ne_zero_left _ d0
        have h' : ¬ (b - a) % ((Int.gcd d e : Nat) : Int) = 0 := fun q => h (Int.dvd_of_emod_eq_zero q)
        simp [F_both, d0, e0, cg, hG, h']
def rowT (p : Int × Int) : D := .tup [.int p.1, .int p.2]
def rowL (p : Int × Int) : D := .lst [.int p.1, .int p.2]
/-- conditions of the size that the law draws -/
def Sized (rows : List (Int × Int)) : Prop := rows.length ≤ 5 ∧ ∀ p ∈ rows, 0 ≤ p.2 ∧ p.2 < 2 ^ 64 ∧ p.1.natAbs < 2 ^ 128
abbrev meetB : EvS := (sSeq (sSet 1 (eCall F_both (aCons (eVar 1) (aCons (eTup (aCons (eOp oIx (eVar 2) (eInt 0)) (aCons (eOp oIx (eVar 2) (eInt 1)) aNil))) aNil)))) (sIf (tBl (eOp1 oIsN (eVar 1))) (sRet (eC .non)) sPass))
/-- what meet_numbers tells -/
def Tells (rows : List (Int × Int)) (v : D) : Prop := (v = .non ∧ (∀ y, ¬ Meets y rows) ∧ ¬ Pair rows) ∨ ∃ x m, v = .tup [.int x, .int m] ∧ NF rows x m ∧ m = (lcms rows 1 : Nat) ∧ x.natAbs < 2 ^ 400 ∧ m.natAbs < 2 ^ 400
theorem lcm_bound {a b : Nat} {i j : Nat} (ha : a < 2 ^ i) (hb : b < 2 ^ j) : Nat.lcm a b < 2 ^ (i + j) := by
  rw [Nat.pow_add]
  refine Nat.lt_of_le_of_lt ?_ (Nat.mul_lt_mul_of_lt_of_le ha (Nat.le_of_lt hb) (Nat.pow_pos (by decide)))
  unfold Nat.lcm
  exact Nat.div_le_self _ _
theorem meet_go (f : Int × Int → D) (hf : f = rowT ∨ f = rowL) (d0 : Option Vl) (om : List Cell) : ∀ (rest pre : List (Int × Int)) (x m : Int) (d2 : Option Vl), NF pre x m → m = (lcms pre 1 : Nat) → m.natAbs < 2 ^ (64 * pre.length + 1) → x.natAbs < 2 ^ 400 → Sized (pre ++ rest) →
    ∃ v d2', ((∃ st', forGo (gNm 2) meetB (rest.map f) ⟨[d0, some (.sh (.tup [.int x, .int m])), d2], om⟩ = .rt (.sh .non) st' ∧ st'.om = om ∧ v = .non) ∨ (forGo (gNm 2) meetB (rest.map f) ⟨[d0, some (.sh (.tup [.int x, .int m])), d2], om⟩ = .nx ⟨[d0, some (.sh v), d2'], om⟩ ∧ v ≠ .non)) ∧ Tells (pre ++ rest) v := by
  intro rest
  induction rest with
  | nil =>
    intro pre x m d2 h hm bm bx hs
    have hl := hs.1
    simp only [List.append_nil] at hl
    have : m.natAbs < 2 ^ 400 := Nat.lt_of_lt_of_le bm (Nat.pow_le_pow_right (by decide) (by omega))
    exact ⟨.tup [.int x, .int m], d2, .inr ⟨rfl, by simp⟩, .inr ⟨x, m, rfl, by simpa using h, by simpa using hm, bx, this⟩⟩
  | cons p rest ih =>
    intro pre x m d2 h hm bm bx hs
    obtain ⟨b, e⟩ := p
    have hl := hs.1
    simp only [List.length_append, List.length_cons] at hl
    obtain ⟨s1, s2, s3⟩ := hs.2 (b, e) (by simp)
    have bm' : m.natAbs < 2 ^ 400 := Nat.lt_of_lt_of_le bm (Nat.pow_le_pow_right (by decide) (by omega))
    have hcells : ∀ v, F_both [.tup [.int x, .int m], .tup [.int b, .int e]] om = .ok (.sh v) om → forGo (gNm 2) meetB ((⟨b, e⟩ :: rest : List (Int × Int)).map f) ⟨[d0, some (.sh (.tup [.int x, .int m])), d2], om⟩ =
        if v.isNon = true then .rt (.sh .non) ⟨[d0, some (.sh v), some (.sh (f (b, e)))], om⟩ else forGo (gNm 2) meetB (rest.map f) ⟨[d0, some (.sh v), some (.sh (f (b, e)))], om⟩ := by
      intro v hv
      rw [List.map_cons, x_forCons]
      rcases hf with rfl | rfl <;> simp [rowT, rowL, hv] <;> cases v.isNon <;> simp
    rcases both_ok x m b e om h.pos s1 bm' (by omega) bx (by omega) with ⟨g, x', m', j, eq⟩ | ⟨g, eq⟩
    · have n' := h.join j
      have lc : m' = (lcms (pre ++ [(b, e)]) 1 : Nat) := by
        rw [j.lcm, lcms_append, hm]
        rfl
      have e' : e.natAbs < 2 ^ 64 := by omega
      have bb : m'.natAbs < 2 ^ (64 * (pre ++ [(b, e)]).length + 1) := by
        rw [j.lcm, Int.natAbs_natCast, List.length_append]
        have := lcm_bound bm e'
        rw [Int.lcm_eq_natAbs_lcm_natAbs]
        exact Nat.lt_of_lt_of_le this (Nat.pow_le_pow_right (by decide) (by simp; omega))
      have bb' : m'.natAbs < 2 ^ 400 := Nat.lt_of_lt_of_le bb (Nat.pow_le_pow_right (by decide) (by simp; omega))
      obtain ⟨v, d2', o, t⟩ := ih (pre ++ [(b, e)]) x' m' (some (.sh (f (b, e)))) n' lc bb (by rcases j.from' with h | h | h <;> omega) (by simpa using hs)
      refine ⟨v, d2', ?_, by simpa using t⟩
      rw [hcells _ eq]
      simpa using o
    · refine ⟨.non, none, .inl ⟨_, by rw [hcells _ eq]; simp; rfl, rfl, rfl⟩, .inl ⟨rfl, fun y q => ?_, fun q => ?_⟩⟩
      rotate_left
      · exact g (Pair.next h hm fun p hp q' hq' => q p (by simp only [List.mem_append, List.mem_cons] at hp ⊢; rcases hp with h | h | h <;> simp_all) q' (by simp only [List.mem_append, List.mem_cons] at hq' ⊢; rcases hq' with h | h | h <;> simp_all))
      refine h.none g y ?_
      rw [show pre ++ (b, e) :: rest = pre ++ [(b, e)] ++ rest by simp] at q
      exact ((meets_append y _ _).mp q).1
theorem meet_ok (f : Int × Int → D) (hf : f = rowT ∨ f = rowL) (c : List D → D) (hc : c = D.lst ∨ c = D.tup) (rows : List (Int × Int)) (om : List Cell) (hs : Sized rows) :
    ∃ v, F_meet_numbers [c (rows.map f)] om = .ok (.sh v) om ∧ Tells rows v := by
  obtain ⟨v, d2', o, t⟩ := meet_go f hf (some (.sh (c (rows.map f)))) om rows [] 0 1 none .nil rfl (by decide) (by decide) (by simpa using hs)
  simp only [List.nil_append] at t
  refine ⟨v, ?_, t⟩
  rcases o with ⟨st', e, h, rfl⟩ | ⟨e, h⟩
  · rcases hc with rfl | rfl <;> simp [F_meet_numbers, e, h]
  · rcases hc with rfl | rfl <;> simp [F_meet_numbers, e, h]
theorem Tells.same {rows rows' : List (Int × Int)} {v v' : D} (h : Tells rows v) (h' : Tells rows' v') (e : ∀ y, Meets y rows ↔ Meets y rows') : v = v' := by
  rcases h with ⟨rfl, h, _⟩ | ⟨x, m, rfl, h, _⟩ <;> rcases h' with ⟨rfl, h', _⟩ | ⟨x', m', rfl, h', _⟩
  · rfl
  · exact absurd ((e _).mpr h'.self) (h _)
  · exact absurd ((e _).mp h.self) (h' _)
  · obtain ⟨rfl, rfl⟩ := h.uniq h' e
    rfl
end Mini.K22

set_option linter.all false
set_option maxRecDepth 100000
/-! L_k22d: the law's own defs. -/
namespace Mini.K22
open Mini Mini.Lib PySem
abbrev gcdB : EvS := (sSeq (sIf (tBl (eOp oEq (eVar 4) (eInt 0))) sBreak sPass) (sPar [3, 4] [(eVar 4), (eOp oMod (eB bInt (aCons (eVar 3) aNil)) (eVar 4))]))
theorem half {a b : Nat} (hb : 0 < b) (hr : 0 < a % b) : 2 * (b % (a % b)) < b := by
  have h1 := Nat.mod_lt a hb
  have h2 := Nat.mod_lt b hr
  have h3 := Nat.div_add_mod b (a % b)
  have h4 : 0 < b / (a % b) := Nat.div_pos (Nat.le_of_lt h1) hr
  have h5 : a % b ≤ a % b * (b / (a % b)) := Nat.le_mul_of_pos_right _ h4
  omega
theorem gcd_step (d0 d1 d2 : Option Vl) (om : List Cell) (a b : Nat) (lo : Int) (xs : List D) (hb : 0 < b) : forGo (gNm 2) gcdB (.int lo :: xs) ⟨[d0, d1, d2, some (.sh (.int a)), some (.sh (.int b))], om⟩ = forGo (gNm 2) gcdB xs ⟨[d0, d1, some (.sh (.int lo)), some (.sh (.int b)), some (.sh (.int (a % b : Nat)))], om⟩ := by
  rw [x_forCons]
  simp [show b ≠ 0 by omega, hb]
theorem gcd_end (d0 d1 d2 : Option Vl) (om : List Cell) (a : Nat) (lo : Int) (xs : List D) : ∃ d2', forGo (gNm 2) gcdB (.int lo :: xs) ⟨[d0, d1, d2, some (.sh (.int a)), some (.sh (.int 0))], om⟩ = .nx ⟨[d0, d1, d2', some (.sh (.int a)), some (.sh (.int 0))], om⟩ := by
  rw [x_forCons]
  simp
theorem gcd_go (d0 d1 : Option Vl) (om : List Cell) : ∀ (k b a n : Nat) (d2 : Option Vl) (lo : Int), b < 2 ^ k → 2 * k < n →
    ∃ d2', forGo (gNm 2) gcdB (rangeD lo n) ⟨[d0, d1, d2, some (.sh (.int a)), some (.sh (.int b))], om⟩ = .nx ⟨[d0, d1, d2', some (.sh (.int (Nat.gcd a b : Nat))), some (.sh (.int 0))], om⟩ := by
  intro k
  induction k with
  | zero =>
    intro b a n d2 lo hb hn
    obtain rfl : b = 0 := by omega
    obtain ⟨n, rfl⟩ : ∃ n', n = n' + 1 := ⟨n - 1, by omega⟩
    rw [rangeD_succ]
    simpa using gcd_end d0 d1 d2 om a lo _
  | succ k ih =>
    intro b a n d2 lo hb hn
    obtain ⟨n, rfl⟩ : ∃ n', n = n' + 2 := ⟨n - 2, by omega⟩
    rw [rangeD_succ, rangeD_succ]
    by_cases h : b = 0
    · subst h
      simpa using gcd_end d0 d1 d2 om a lo _
    · have hb0 : 0 < b := by omega
      rw [gcd_step _ _ _ _ _ _ _ _ hb0]
      have e1 : Nat.gcd a b = Nat.gcd b (a % b) := by rw [Nat.gcd_comm b, ← Nat.gcd_rec, Nat.gcd_comm]
      by_cases h2 : a % b = 0
      · rw [e1, h2]
        simpa using gcd_end d0 d1 _ om b (lo + 1) _
      · have hr : 0 < a % b := by omega
        rw [gcd_step _ _ _ _ _ _ _ _ hr]
        have e2 : Nat.gcd b (a % b) = Nat.gcd (a % b) (b % (a % b)) := by rw [Nat.gcd_comm (a % b), ← Nat.gcd_rec, Nat.gcd_comm]
        rw [e1, e2]
        have := half (a := a) hb0 hr
        exact ih _ _ n _ (lo + 1 + 1) (by rw [Nat.pow_succ] at hb; omega) (by omega)
theorem gcd_ok (a b : Int) (om : List Cell) (hb : b.natAbs < 2 ^ 900) : F_law_d_gcd [.int a, .int b] om = .ok (.sh (.int (Int.gcd a b : Nat))) om := by
  obtain ⟨d2, e⟩ := gcd_go (some (.sh (.int a))) (some (.sh (.int b))) om 900 b.natAbs a.natAbs 2000 none 0 hb (by decide)
  simp [F_law_d_gcd, e]
  rfl
theorem modulo_ok (a d : Int) (om : List Cell) (hd : 0 ≤ d) : F_law_d_modulo [.int a, .int d] om = .ok (.sh (.int (a % d))) om := by
  by_cases h : d = 0
  · subst h; simp [F_law_d_modulo]
  · simp [F_law_d_modulo, h, show 0 < d by omega]
theorem meets_all (y : Int) (rows : List (Int × Int)) : (rows.all fun p => (y - p.1) % p.2 == 0) = decide (Meets y rows) := by
  rw [Bool.eq_iff_iff, List.all_eq_true, decide_eq_true_iff]
  unfold Meets
  simp only [beq_iff_eq, Int.dvd_iff_emod_eq_zero]
theorem allmeet_ok (y : Int) (rows : List (Int × Int)) (om : List Cell) (hs : Sized rows) : F_law_d_allmeet [.int y, .lst (rows.map rowT)] om = .ok (.sh (.bl (decide (Meets y rows)))) om := by
  have hc := comp_map (gTp (gMore (gNm 2) (gMore (gNm 3) gNone))) (eOp oEq (eCall F_law_d_modulo (aCons (eOp oSub (eVar 0) (eVar 2)) (aCons (eVar 3) aNil))) (eInt 0)) [2, 3]
    (fun x => match x with
      | .tup [.int c, .int d] => .bl ((y - c) % d == 0)
      | _ => .non) ⟨[some (.sh (.int y)), some (.sh (.lst (rows.map rowT))), none, none], om⟩ (rows.map rowT) (by have := hs.1; simp; omega) (by
      intro x hx
      obtain ⟨p, hp, rfl⟩ := List.mem_map.mp hx
      obtain ⟨s1, s2, s3⟩ := hs.2 p hp
      have hm := modulo_ok (y - p.1) p.2 om s1
      exact ⟨_, .sh (.bl ((y - p.1) % p.2 == 0)), ⟨[some (.sh (.int y)), some (.sh (.lst (rows.map rowT))), some (.sh (.int p.1)), some (.sh (.int p.2))], om⟩, rfl, by simp [hm], rfl, rfl, rfl⟩)
  rw [List.map_map] at hc
  have : (rows.map ((fun x => match x with
      | .tup [.int c, .int d] => D.bl ((y - c) % d == 0)
      | _ => .non) ∘ rowT)) = (rows.map fun p => (y - p.1) % p.2 == 0).map D.bl := by rw [List.map_map]; rfl
  rw [this] at hc
  rw [← meets_all]
  simp only [F_law_d_allmeet, x_run, x_ret, x_b, x_cons, x_comp, x_iany, x_var, List.map_cons, List.map_nil, List.length_cons, List.length_nil, Nat.zero_add, Nat.reduceAdd, Nat.reduceSub, List.replicate, List.cons_append, List.nil_append, List.getElem?_cons_succ, List.getElem?_cons_zero, r_ok, d_sh, calm_def, List.all_cons, List.all_nil, Bool.and_self, if_true, w_cons, w_nil, List.set_cons_succ, List.set_cons_zero, hc, rs_cons, rs_nil, Option.getD_some, d_ow, x_nil, bi_all, t_ok, toF_rt, List.all_map]
  rfl
theorem same_ii (a b : Int) (om : List Cell) : F_law_same [.int a, .int b] om = .ok (.sh (.bl (a == b))) om := by simp [F_law_same]
theorem pair_all (rows : List (Int × Int)) : (rows.all fun p => rows.all fun q => (p.1 - q.1) % ((Int.gcd p.2 q.2 : Nat) : Int) == 0) = true ↔ Pair rows := by
  simp only [List.all_eq_true, beq_iff_eq, Pair, Int.dvd_iff_emod_eq_zero]
abbrev fitIn : EvS := (sIf (tBl (eOp oNe (eCall F_law_d_modulo (aCons (eOp oSub (eVar 1) (eVar 3)) (aCons (eCall F_law_d_gcd (aCons (eVar 2) (aCons (eVar 4) aNil))) aNil))) (eInt 0))) (sRet (eC (.bl false))) sPass)
theorem fit_in (rows : List (Int × Int)) (hs : Sized rows) (om : List Cell) (p : Int × Int) (d3 d4 : Option Vl) :
    ((rows.map rowT).all (fun x => match x with | .tup [.int c, .int d] => (p.1 - c) % ((Int.gcd p.2 d : Nat) : Int) == 0 | _ => true) = true ∧ ∃ d3' d4', forGo (gTp (gMore (gNm 3) (gMore (gNm 4) gNone))) fitIn (rows.map rowT) ⟨[some (.sh (.lst (rows.map rowT))), some (.sh (.int p.1)), some (.sh (.int p.2)), d3, d4], om⟩ = .nx ⟨[some (.sh (.lst (rows.map rowT))), some (.sh (.int p.1)), some (.sh (.int p.2)), d3', d4'], om⟩) ∨
    ((rows.map rowT).all (fun x => match x with | .tup [.int c, .int d] => (p.1 - c) % ((Int.gcd p.2 d : Nat) : Int) == 0 | _ => true) = false ∧ ∃ s', forGo (gTp (gMore (gNm 3) (gMore (gNm 4) gNone))) fitIn (rows.map rowT) ⟨[some (.sh (.lst (rows.map rowT))), some (.sh (.int p.1)), some (.sh (.int p.2)), d3, d4], om⟩ = .rt (.sh (.bl false)) s' ∧ s'.om = om) := by
  rcases for_all (g := gTp (gMore (gNm 3) (gMore (gNm 4) gNone))) (b := fitIn) (v := .sh (.bl false)) (fun st => ∃ d3' d4', st = ⟨[some (.sh (.lst (rows.map rowT))), some (.sh (.int p.1)), some (.sh (.int p.2)), d3', d4'], om⟩) (fun st => st.om = om) (fun x => match x with | .tup [.int c, .int d] => (p.1 - c) % ((Int.gcd p.2 d : Nat) : Int) == 0 | _ => true) (rows.map rowT) _ ⟨d3, d4, rfl⟩ (by
      intro x hx st ⟨d3', d4', e⟩
      subst e
      obtain ⟨q, hq, rfl⟩ := List.mem_map.mp hx
      obtain ⟨s1, s2, s3⟩ := hs.2 q hq
      have hg := gcd_ok p.2 q.2 om (by omega)
      have hm := modulo_ok (p.1 - q.1) (Int.gcd p.2 q.2 : Nat) om (by omega)
      refine ⟨⟨[some (.sh (.lst (rows.map rowT))), some (.sh (.int p.1)), some (.sh (.int p.2)), some (.sh (.int q.1)), some (.sh (.int q.2))], om⟩, rfl, fun h => ⟨_, ?_, some (.sh (.int q.1)), some (.sh (.int q.2)), rfl⟩, fun h => ⟨⟨[some (.sh (.lst (rows.map rowT))), some (.sh (.int p.1)), some (.sh (.int p.2)), some (.sh (.int q.1)), some (.sh (.int q.2))], om⟩, ?_, rfl⟩⟩
      · have h : (p.1 - q.1) % ((Int.gcd p.2 q.2 : Nat) : Int) = 0 := by simpa [rowT] using h
        simp [hg, hm, h]
      · have h : ¬ (p.1 - q.1) % ((Int.gcd p.2 q.2 : Nat) : Int) = 0 := by simpa [rowT] using h
        simp [hg, hm, h]) with ⟨a, s', e, d3', d4', rfl⟩ | ⟨a, s', e, i⟩
  · exact .inl ⟨a, d3', d4', e⟩
  · exact .inr ⟨a, s', e, i⟩
theorem fits_ok (rows : List (Int × Int)) (hs : Sized rows) (om : List Cell) : ∃ b : Bool, F_law_d_fits [.lst (rows.map rowT)] om = .ok (.sh (.bl b)) om ∧ (b = true ↔ Pair rows) := by
  refine ⟨rows.all fun p => rows.all fun q => (p.1 - q.1) % ((Int.gcd p.2 q.2 : Nat) : Int) == 0, ?_, pair_all rows⟩
  rcases for_all (g := gTp (gMore (gNm 1) (gMore (gNm 2) gNone))) (b := sFor (iAny (eVar 0)) (gTp (gMore (gNm 3) (gMore (gNm 4) gNone))) fitIn) (v := .sh (.bl false)) (fun st => ∃ d1 d2 d3 d4, st = ⟨[some (.sh (.lst (rows.map rowT))), d1, d2, d3, d4], om⟩) (fun st => st.om = om) (fun x => match x with | .tup [.int c, .int d] => rows.all fun q => (c - q.1) % ((Int.gcd d q.2 : Nat) : Int) == 0 | _ => true) (rows.map rowT) ⟨[some (.sh (.lst (rows.map rowT))), none, none, none, none], om⟩ ⟨none, none, none, none, rfl⟩ (by
      intro x hx st ⟨d1, d2, d3, d4, e⟩
      subst e
      obtain ⟨p, hp, rfl⟩ := List.mem_map.mp hx
      have hin : ((rows.map rowT).all (fun x => match x with | .tup [.int c, .int d] => (p.1 - c) % ((Int.gcd p.2 d : Nat) : Int) == 0 | _ => true)) = (rows.all fun q => (p.1 - q.1) % ((Int.gcd p.2 q.2 : Nat) : Int) == 0) := by
        rw [List.all_map]; rfl
      refine ⟨⟨[some (.sh (.lst (rows.map rowT))), some (.sh (.int p.1)), some (.sh (.int p.2)), d3, d4], om⟩, rfl, fun h => ?_, fun h => ?_⟩ <;> rcases fit_in rows hs om p d3 d4 with ⟨a, d3', d4', e⟩ | ⟨a, s', e, i⟩ <;> rw [hin] at a
      · exact ⟨⟨[some (.sh (.lst (rows.map rowT))), some (.sh (.int p.1)), some (.sh (.int p.2)), d3', d4'], om⟩, by simp [e], _, _, d3', d4', rfl⟩
      · exact absurd (h.symm.trans a) (by simp)
      · exact absurd (h.symm.trans a) (by simp)
      · exact ⟨s', by simp [e], i⟩) with ⟨a, s', e, _, _, _, _, rfl⟩ | ⟨a, s', e, i⟩
  all_goals
    rw [List.all_map] at a
    have a : (rows.all fun p => rows.all fun q => (p.1 - q.1) % ((Int.gcd p.2 q.2 : Nat) : Int) == 0) = _ := a
    rw [a]
  · simp [F_law_d_fits, e]
  · simp [F_law_d_fits, e, i]
theorem lcms_bound : ∀ (rows : List (Int × Int)) (n k : Nat), (∀ p ∈ rows, 0 ≤ p.2 ∧ p.2 < 2 ^ 64) → n < 2 ^ k → lcms rows n < 2 ^ (k + 64 * rows.length)
  | [], n, k, _, h => h
  | p :: r, n, k, hs, h => by
    have h1 := hs p (by simp)
    have := lcms_bound r (Nat.lcm n p.2.natAbs) (k + 64) (fun q hq => hs q (by simp [hq])) (lcm_bound h (by omega))
    rw [show k + 64 * (p :: r).length = k + 64 + 64 * r.length by rw [List.length_cons]; omega]
    exact this
theorem most_go (d0 d1 : Option Vl) (om : List Cell) : ∀ (rows : List (Int × Int)) (n k : Nat) (d3 d4 : Option Vl), (∀ p ∈ rows, 0 ≤ p.2 ∧ p.2 < 2 ^ 64) → n < 2 ^ k → k + 64 * rows.length ≤ 800 → 0 < k →
    ∃ d3' d4', forGo (gTp (gMore (gNm 3) (gMore (gNm 4) gNone))) (sSet 2 (eIf (tAnd (tTru (eVar 2)) (tTru (eVar 4))) (eOp oDiv (eOp oMul (eVar 2) (eVar 4)) (eCall F_law_d_gcd (aCons (eVar 2) (aCons (eVar 4) aNil)))) (eInt 0))) (rows.map rowT) ⟨[d0, d1, some (.sh (.int n)), d3, d4], om⟩ = .nx ⟨[d0, d1, some (.sh (.int (lcms rows n : Nat))), d3', d4'], om⟩ := by
  intro rows
  induction rows with
  | nil => intro n k d3 d4 _ _ _ _; exact ⟨d3, d4, rfl⟩
  | cons p rows ih =>
    intro n k d3 d4 hs hn hk h0
    obtain ⟨s1, s2⟩ := hs p (by simp)
    rw [List.length_cons] at hk
    obtain ⟨d, hd⟩ := Int.eq_ofNat_of_zero_le s1
    have hd' : d < 2 ^ 64 := by omega
    obtain ⟨d3', d4', e⟩ := ih (Nat.lcm n d) (k + 64) (some (.sh (.int p.1))) (some (.sh (.int d))) (fun q hq => hs q (by simp [hq])) (lcm_bound hn hd') (by omega) (by omega)
    refine ⟨d3', d4', ?_⟩
    have e' : lcms (p :: rows) n = lcms rows (Nat.lcm n d) := by show lcms rows (Nat.lcm n p.2.natAbs) = _; rw [hd]; rfl
    rw [e', ← e, List.map_cons, x_forCons]
    have hg := gcd_ok n d om (by rw [Int.natAbs_natCast]; exact Nat.lt_trans hd' (by decide))
    by_cases hn0 : n = 0
    · subst hn0
      simp [rowT, hd]
    · by_cases hd0 : d = 0
      · subst hd0
        simp [rowT, hd, hn0]
      · have hG : 0 < Nat.gcd n d := Nat.gcd_pos_of_pos_left _ (by omega)
        have hG2 : Nat.gcd n d ≤ d := Nat.le_of_dvd (by omega) (Nat.gcd_dvd_right ..)
        have m1 : oMul (.int (n : Int)) (.int (d : Int)) = some (.sh (.int ((n : Int) * (d : Int)))) := v_mul_r (by rw [Int.natAbs_natCast]; exact hd')
        have d1 : oDiv (.int ((n : Int) * (d : Int))) (.int ((Nat.gcd n d : Nat) : Int)) = some (.sh (.int (Nat.lcm n d : Nat))) := by
          rw [v_div (by omega) (pow9000 (k := 64) (by rw [Int.natAbs_natCast]; omega))]
          rfl
        simp [rowT, hd, hn0, hd0, hg, m1, d1]
theorem Sized.mod {rows : List (Int × Int)} (h : Sized rows) : ∀ p ∈ rows, 0 ≤ p.2 ∧ p.2 < 2 ^ 64 := fun p hp => ⟨(h.2 p hp).1, (h.2 p hp).2.1⟩
theorem right_ok (rows : List (Int × Int)) (hs : Sized rows) (v : D) (h : Tells rows v) (om : List Cell) : F_law_d_right [.lst (rows.map rowT), v] om = .ok (.sh (.bl true)) om := by
  obtain ⟨b, hf, hb⟩ := fits_ok rows hs om
  rcases h with ⟨rfl, h, hp⟩ | ⟨x, m, rfl, h, hm, _⟩
  · have : b = false := by
      cases b with
      | false => rfl
      | true => exact absurd (hb.mp rfl) hp
    simp [F_law_d_right, hf, this]
  · have : b = true := hb.mpr h.self.pair
    subst this
    obtain ⟨d3', d4', e⟩ := most_go (some (.sh (.lst (rows.map rowT)))) (some (.sh (.tup [.int x, .int m]))) om rows 1 1 none none hs.mod (by decide) (by have := hs.1; omega) (by decide)
    have hs1 := same_ii m m om
    have hs2 := same_ii x x om
    have ha := allmeet_ok x rows om hs
    rw [decide_eq_true h.self] at ha
    simp only [Int.natCast_one, ← hm] at e
    rcases h.low with h0 | ⟨h1, h2⟩
    · subst h0
      simp [F_law_d_right, hf, e, hs1, hs2, ha]
    · simp [F_law_d_right, hf, e, hs1, hs2, ha, h1, h2, show (m == 0) = false by simp; omega]
/-- the law draws conditions of their size -/
theorem rows_go (rest : List Cell) (most far : Int) (hm : 0 ≤ most) (hmm : most ≤ 1000000000000000000) (hf : 0 ≤ far) (hff : far ≤ 1000000000000000000000000000000) (hit aimed : Int) (hh : hit.natAbs < 2 ^ 101) : ∀ (n : Nat) (lo : Int) (pre : List (Int × Int)) (om : List Cell) (d7 d8 d3 : Option Vl), Src om rest → pre.length + n ≤ 5 → Sized pre →
    ∃ rows om' d7' d8' d3', forGo (gNm 3) (sSeq (sSet 7 (eCall F_law_one (aCons (eVar 0) (aCons (eOp oAdd (eLst (aCons (eInt 0) aNil)) (eOp oMul (eLst (aCons (eOp oAdd (eInt 1) (eCall F_law_pick (aCons (eVar 0) (aCons (eVar 1) aNil)))) aNil)) (eInt 6))) aNil)))) (sSeq (sSet 8 (eIf (tTru (eVar 6)) (eOp oAdd (eVar 5) (eOp oMul (eVar 7) (eCall F_law_within (aCons (eVar 0) (aCons (eOp1 oNeg (eInt 3)) (aCons (eInt 3) aNil)))))) (eCall F_law_within (aCons (eVar 0) (aCons (eOp1 oNeg (eVar 2)) (aCons (eVar 2) aNil)))))) (sApp 4 (eTup (aCons (eVar 8) (aCons (eVar 7) aNil)))))) (rangeD lo n)
      ⟨[some (.sh (.cell 1)), some (.sh (.int most)), some (.sh (.int far)), d3, some (.ow (pre.map rowT)), some (.sh (.int hit)), some (.sh (.int aimed)), d7, d8], om⟩
      = .nx ⟨[some (.sh (.cell 1)), some (.sh (.int most)), some (.sh (.int far)), d3', some (.ow (rows.map rowT)), some (.sh (.int hit)), some (.sh (.int aimed)), d7', d8'], om'⟩ ∧ Src om' rest ∧ Sized rows := by
  intro n
  induction n with
  | zero => intro lo pre om d7 d8 d3 h hl hs; exact ⟨pre, om, d7, d8, d3, rfl, h, hs⟩
  | succ n ih =>
    intro lo pre om d7 d8 d3 h hl hs
    rw [rangeD_succ, x_forCons]
    obtain ⟨r, om1, e1, h1, r0, r1, r2⟩ := pick_ok h (m := most) (pow9000 (k := 100) (by omega))
    obtain ⟨d, om2, e2, h2, hd⟩ := one_ok h1 (xs := [.int 0, .int (1 + r), .int (1 + r), .int (1 + r), .int (1 + r), .int (1 + r), .int (1 + r)]) (by simp) (by simp)
    obtain ⟨dd, rfl, hD0, hD1⟩ : ∃ dd : Int, d = .int dd ∧ 0 ≤ dd ∧ dd < 2 ^ 64 := by
      rcases List.mem_cons.mp hd with h | h
      · exact ⟨0, h, by decide, by decide⟩
      · refine ⟨1 + r, by simpa using h, by omega, ?_⟩
        rcases Int.lt_or_le most 2 with c | c
        · have := r2 c; omega
        · have := r1 c; omega
    obtain ⟨c, om3, d8x, hc, e3, h3⟩ : ∃ (c : Int) (om3 : List Cell) (_ : Unit), c.natAbs < 2 ^ 128 ∧ (sSet 8 (eIf (tTru (eVar 6)) (eOp oAdd (eVar 5) (eOp oMul (eVar 7) (eCall F_law_within (aCons (eVar 0) (aCons (eOp1 oNeg (eInt 3)) (aCons (eInt 3) aNil)))))) (eCall F_law_within (aCons (eVar 0) (aCons (eOp1 oNeg (eVar 2)) (aCons (eVar 2) aNil)))))) ⟨[some (.sh (.cell 1)), some (.sh (.int most)), some (.sh (.int far)), some (.sh (.int lo)), some (.ow (pre.map rowT)), some (.sh (.int hit)), some (.sh (.int aimed)), some (.sh (.int dd)), d8], om2⟩
        = .nx ⟨[some (.sh (.cell 1)), some (.sh (.int most)), some (.sh (.int far)), some (.sh (.int lo)), some (.ow (pre.map rowT)), some (.sh (.int hit)), some (.sh (.int aimed)), some (.sh (.int dd)), some (.sh (.int c))], om3⟩ ∧ Src om3 rest := by
      by_cases ha : aimed = 0
      · obtain ⟨c, om3, e3, h3, l1, l2⟩ := within_ok h2 (lo := -far) (hi := far) (pow9000 (k := 102) (by omega)) (by omega)
        exact ⟨c, om3, (), by omega, by simp [ha, e3], h3⟩
      · obtain ⟨t, om3, e3, h3, l1, l2⟩ := within_ok h2 (lo := -3) (hi := 3) (pow9000 (k := 10) (by decide)) (by decide)
        have : (dd * t).natAbs < 2 ^ 68 := by
          rw [Int.natAbs_mul]
          have a1 : dd.natAbs < 2 ^ 64 := by omega
          have a2 : t.natAbs ≤ 3 := by omega
          have := Nat.mul_le_mul (Nat.le_of_lt a1) a2
          omega
        exact ⟨hit + dd * t, om3, (), by omega, by simp [ha, e3, v_mul_l (show dd.natAbs < 2 ^ 64 by omega)], h3⟩
    obtain ⟨rows, om', d7', d8', d3', e, h', hs'⟩ := ih (lo + 1) (pre ++ [(c, dd)]) om3 (some (.sh (.int dd))) (some (.sh (.int c))) (some (.sh (.int lo))) h3 (by simp; omega) ⟨by simp; omega, fun p hp => by
      rcases List.mem_append.mp hp with hp | hp
      · exact hs.2 p hp
      · obtain rfl : p = (c, dd) := by simpa using hp
        exact ⟨hD0, hD1, hc⟩⟩
    refine ⟨rows, om', d7', d8', d3', ?_, h', hs'⟩
    rw [← e]
    have hp : pre.length < 100000 := by omega
    have e7 : (sSet 7 (eCall F_law_one (aCons (eVar 0) (aCons (eOp oAdd (eLst (aCons (eInt 0) aNil)) (eOp oMul (eLst (aCons (eOp oAdd (eInt 1) (eCall F_law_pick (aCons (eVar 0) (aCons (eVar 1) aNil)))) aNil)) (eInt 6))) aNil)))) ⟨[some (.sh (.cell 1)), some (.sh (.int most)), some (.sh (.int far)), some (.sh (.int lo)), some (.ow (pre.map rowT)), some (.sh (.int hit)), some (.sh (.int aimed)), d7, d8], om⟩
        = .nx ⟨[some (.sh (.cell 1)), some (.sh (.int most)), some (.sh (.int far)), some (.sh (.int lo)), some (.ow (pre.map rowT)), some (.sh (.int hit)), some (.sh (.int aimed)), some (.sh (.int dd)), d8], om2⟩ := by
      simp [e1, List.replicate, e2]
    have e9 : (gNm 3 (.int lo) ⟨[some (.sh (.cell 1)), some (.sh (.int most)), some (.sh (.int far)), d3, some (.ow (pre.map rowT)), some (.sh (.int hit)), some (.sh (.int aimed)), d7, d8], om⟩) = some ⟨[some (.sh (.cell 1)), some (.sh (.int most)), some (.sh (.int far)), some (.sh (.int lo)), some (.ow (pre.map rowT)), some (.sh (.int hit)), some (.sh (.int aimed)), d7, d8], om⟩ := rfl
    simp only [e9, x_seq, e7, o_nx, e3]
    simp [hp, rowT]
end Mini.K22

set_option linter.all false
set_option maxRecDepth 100000
/-! L_k22e: the law holds. -/
namespace Mini.K22
open Mini Mini.Lib PySem
theorem conditions_ok {om rest : List Cell} (h : Src om rest) {most far : Int} (hm : 0 ≤ most) (hmm : most ≤ 1000000000000000000) (hf : 0 ≤ far) (hff : far ≤ 1000000000000000000000000000000) :
    ∃ rows om', F_law_d_conditions [.cell 1, .int most, .int far] om = .ok (.ow (rows.map rowT)) om' ∧ Src om' rest ∧ Sized rows := by
  obtain ⟨hit, om1, e1, h1, l1, l2⟩ := within_ok h (lo := -far) (hi := far) (pow9000 (k := 102) (by omega)) (by omega)
  obtain ⟨aimed, om2, e2, h2, _⟩ := pick_ok h1 (m := 2) (pow9000 (k := 3) (by decide))
  obtain ⟨d, om3, e3, h3, hd⟩ := one_ok h2 (xs := [D.int 0, .int 1, .int 2, .int 2, .int 3, .int 3, .int 4, .int 5]) (by simp) (by simp)
  obtain ⟨n, rfl, hn⟩ : ∃ n : Nat, d = .int n ∧ n ≤ 5 := by
    simp only [List.mem_cons, List.mem_nil_iff, or_false] at hd
    rcases hd with h | h | h | h | h | h | h | h
    · exact ⟨0, h, by decide⟩
    · exact ⟨1, h, by decide⟩
    · exact ⟨2, h, by decide⟩
    · exact ⟨2, h, by decide⟩
    · exact ⟨3, h, by decide⟩
    · exact ⟨3, h, by decide⟩
    · exact ⟨4, h, by decide⟩
    · exact ⟨5, h, by decide⟩
  obtain ⟨rows, om', d7, d8, d3, e, h', hs⟩ := rows_go rest most far hm hmm hf hff hit aimed (by omega) n 0 [] om3 none none none h3 (by simpa using hn) ⟨by simp, fun p hp => by simp at hp⟩
  refine ⟨rows, om', ?_, h', hs⟩
  simp only [List.map_nil] at e
  simp only [F_law_d_conditions, x_run, x_seq, x_par, x_vals, x_vals0, x_lst, x_nil, x_call, x_cons, x_var, x_op1, List.map_cons, List.map_nil, List.length_cons, List.length_nil, Nat.zero_add, Nat.reduceAdd, Nat.reduceSub, List.replicate, List.cons_append, List.nil_append, List.getElem?_cons_succ, List.getElem?_cons_zero, r_ok, d_sh, v_neg, e1, e2, toR_ok, x_int, many_n, Nat.zero_le, if_true, t_ok, List.all_cons, List.all_nil, Nat.reduceLT, decide_true, Bool.and_self, setAll_cons, setAll_nil, List.set_cons_succ, List.set_cons_zero, o_nx, x_for, x_range1, e3, d_ow, Nat.reduceLeDiff]
  simp [e3, show (n : Int) < 4000000000000000000 by omega, show (-4000000000000000000 : Int) ≤ n by omega, e]
end Mini.K22

set_option linter.all false
set_option maxRecDepth 100000
/-! L_k22f: the law's body, statement by statement (printed by mk22e.py). -/
namespace Mini.K22
open Mini Mini.Lib PySem
def B0 : EvS := (sSet 3 (eOp oEq (eCall F_law_pick (aCons (eVar 1) (aCons (eInt 3) aNil))) (eInt 0)))
def B1 : EvS := (sSet 4 (eCall F_law_d_conditions (aCons (eVar 1) (aCons (eIf (tTru (eVar 3)) (eOp oPow (eInt 10) (eInt 18)) (eInt 12)) (aCons (eIf (tTru (eVar 3)) (eOp oPow (eInt 10) (eInt 30)) (eInt 40)) aNil)))))
def B2 : EvS := (sSet 5 (eIf (tTru (eCall F_law_pick (aCons (eVar 1) (aCons (eInt 2) aNil)))) (eComp (iAny (eVar 4)) (gNm 11) tYes (eB bList (aCons (eVar 11) aNil)) [11]) (eB bList (aCons (eVar 4) aNil))))
def B3 : EvS := (sGet (gTp (gMore (gNm 8) (gMore (gNm 9) gNone))) (eTup (aCons (eComp (iAny (eVar 5)) (gNm 11) tYes (eB bTuple (aCons (eVar 11) aNil)) [11]) (aCons (eCall F_meet_numbers (aCons (eVar 5) aNil)) aNil))))
def B4 : EvS := (sIf (tOr (tBl (eOp oNe (eComp (iAny (eVar 5)) (gNm 11) tYes (eB bTuple (aCons (eVar 11) aNil)) [11]) (eVar 8))) (tNot (tTru (eCall F_law_d_right (aCons (eVar 4) (aCons (eVar 9) aNil)))))) (sRet (eC (.bl false))) sPass)
def B5 : EvS := (sIf (tBl (eOp oNe (eCall F_meet_numbers (aCons (eB bTuple (aCons (eCall F_law_shuffled (aCons (eVar 1) (aCons (eVar 4) aNil))) aNil)) aNil)) (eVar 9))) (sRet (eC (.bl false))) sPass)
def B6 : EvS := (sIf (tNot (tTru (eVar 3))) (sSeq (sSet 10 (eComp (iRange2 (aCons (eOp1 oNeg (eInt 300)) (aCons (eInt 300) aNil))) (gNm 12) (tTru (eCall F_law_d_allmeet (aCons (eVar 12) (aCons (eVar 4) aNil)))) (eVar 12) [12])) (sSeq (sIf (tAnd (tBl (eOp1 oIsN (eVar 9))) (tTru (eVar 10))) (sRet (eC (.bl false))) sPass) (sIf (tAnd (tBl (eOp1 oNotN (eVar 9))) (tBl (eOp oNe (eVar 10) (eComp (iRange2 (aCons (eOp1 oNeg (eInt 300)) (aCons (eInt 300) aNil))) (gNm 12) (tBl (eOp oEq (eCall F_law_d_modulo (aCons (eOp oSub (eVar 12) (eOp oIx (eVar 9) (eInt 0))) (aCons (eOp oIx (eVar 9) (eInt 1)) aNil))) (eInt 0))) (eVar 12) [12])))) (sRet (eC (.bl false))) sPass))) sPass)
def S0 : EvS := (sSet 1 (eCall F_law_source (aCons (eVar 0) (aCons (eInt 0) aNil))))
def S2 : EvS := (sPar [6, 7] [(eCall F_law_within (aCons (eVar 1) (aCons (eOp1 oNeg (eOp oPow (eInt 10) (eInt 30))) (aCons (eOp oPow (eInt 10) (eInt 30)) aNil)))), (eOp oAdd (eInt 1) (eCall F_law_pick (aCons (eVar 1) (aCons (eOp oPow (eInt 10) (eInt 18)) aNil))))])
def S3 : EvS := (sIf (tOr (tBl (eOp oNe (eCall F_meet_numbers (aCons (eLst aNil) aNil)) (eTup (aCons (eInt 0) (aCons (eInt 1) aNil))))) (tOr (tBl (eOp oNe (eCall F_meet_numbers (aCons (eLst (aCons (eTup (aCons (eVar 6) (aCons (eInt 0) aNil))) aNil)) aNil)) (eTup (aCons (eVar 6) (aCons (eInt 0) aNil))))) (tBl (eOp oNe (eCall F_meet_numbers (aCons (eLst (aCons (eTup (aCons (eVar 6) (aCons (eVar 7) aNil))) aNil)) aNil)) (eTup (aCons (eOp oMod (eB bInt (aCons (eVar 6) aNil)) (eVar 7)) (aCons (eVar 7) aNil))))))) (sRet (eC (.bl false))) sPass)
def S4 : EvS := (sRet (eAnd (eOp1 oIsN (eCall F_meet_numbers (aCons (eLst (aCons (eTup (aCons (eVar 6) (aCons (eInt 0) aNil))) (aCons (eTup (aCons (eOp oAdd (eVar 6) (eInt 1)) (aCons (eInt 0) aNil))) aNil))) aNil))) (eOp oEq (eCall F_meet_numbers (aCons (eLst (aCons (eTup (aCons (eVar 6) (aCons (eInt 0) aNil))) (aCons (eTup (aCons (eOp oAdd (eVar 6) (eVar 7)) (aCons (eVar 7) aNil))) (aCons (eTup (aCons (eOp oSub (eVar 6) (eInt 1)) (aCons (eInt 1) aNil))) aNil)))) aNil)) (eTup (aCons (eVar 6) (aCons (eInt 0) aNil))))))
def TB : EvS := (sSeq B0 (sSeq B1 (sSeq B2 (sSeq B3 (sSeq B4 (sSeq B5 B6))))))
theorem F_law_eq : F_law = runDef 13 (sSeq S0 (sSeq (sFor (iRange1 (aCons (eInt 4) aNil)) (gNm 2) TB) (sSeq S2 (sSeq S3 S4)))) := rfl
theorem rowT_fine (rows : List (Int × Int)) : (D.lst (rows.map rowT)).fine deep = true := by
  rw [deep_s, fine_lst]
  refine fines_all fun x hx => ?_
  obtain ⟨p, _, rfl⟩ := List.mem_map.mp hx
  simp [rowT]
theorem ne_self {d : D} (h : d.fine deep = true) : oNe d d = some (.sh (.bl false)) := by rw [v_ne h h, eq_rfl _ _ h]; rfl
theorem eq_self {d : D} (h : d.fine deep = true) : oEq d d = some (.sh (.bl true)) := by rw [v_eq h h, eq_rfl _ _ h]
theorem tells_fine {rows : List (Int × Int)} {v : D} (h : Tells rows v) : v.fine deep = true := by
  rcases h with ⟨rfl, _⟩ | ⟨x, m, rfl, _⟩
  · simp
  · simp
def asL : D → D
  | .lst xs => .lst xs
  | .tup xs => .lst xs
  | _ => .non
def asT : D → D
  | .lst xs => .tup xs
  | .tup xs => .tup xs
  | _ => .non
abbrev En (a0 a2 a3 a4 a5 a6 a7 a8 a9 a10 : Option Vl) : List (Option Vl) := [a0, some (.sh (.cell 1)), a2, a3, a4, a5, a6, a7, a8, a9, a10, none, none]
section
variable (a0 a2 a3 a4 a5 a6 a7 a8 a9 a10 : Option Vl) (om : List Cell)
theorem listed (rows : List (Int × Int)) (hl : rows.length ≤ 5) : compGo (gNm 11) tYes (eB bList (aCons (eVar 11) aNil)) [11] (rows.map rowT) [] ⟨En a0 a2 a3 a4 a5 a6 a7 a8 a9 a10, om⟩ = .ok (rows.map rowL) ⟨En a0 a2 a3 a4 a5 a6 a7 a8 a9 a10, om⟩ := by
  rw [comp_map _ _ _ asL _ _ (by simp; omega) ?_, List.map_map]
  · rfl
  · intro x hx
    obtain ⟨p, _, rfl⟩ := List.mem_map.mp hx
    exact ⟨_, .ow [.int p.1, .int p.2], _, rfl, rfl, rfl, rfl, rfl⟩
theorem tupled (f : Int × Int → D) (hf : f = rowT ∨ f = rowL) (rows : List (Int × Int)) (hl : rows.length ≤ 5) : compGo (gNm 11) tYes (eB bTuple (aCons (eVar 11) aNil)) [11] (rows.map f) [] ⟨En a0 a2 a3 a4 a5 a6 a7 a8 a9 a10, om⟩ = .ok (rows.map rowT) ⟨En a0 a2 a3 a4 a5 a6 a7 a8 a9 a10, om⟩ := by
  rw [comp_map _ _ _ asT _ _ (by simp; omega) ?_, List.map_map]
  · rcases hf with rfl | rfl <;> rfl
  · intro x hx
    obtain ⟨p, _, rfl⟩ := List.mem_map.mp hx
    rcases hf with rfl | rfl <;> exact ⟨_, .sh (.tup [.int p.1, .int p.2]), _, rfl, rfl, rfl, rfl, rfl⟩
def pInt (p : Int → Bool) : D → Bool
  | .int i => p i
  | _ => false
theorem rangeD_int {lo : Int} {n : Nat} {x : D} (h : x ∈ rangeD lo n) : ∃ i, x = .int i := by
  unfold rangeD at h
  obtain ⟨k, _, rfl⟩ := List.mem_map.mp h
  exact ⟨_, rfl⟩
theorem rangeD_len (lo : Int) (n : Nat) : (rangeD lo n).length = n := by simp [rangeD]
theorem found_ok (rows : List (Int × Int)) (hs : Sized rows) (h4 : a4 = some (.sh (.lst (rows.map rowT)))) : compGo (gNm 12) (tTru (eCall F_law_d_allmeet (aCons (eVar 12) (aCons (eVar 4) aNil)))) (eVar 12) [12] (rangeD (-300) 600) [] ⟨En a0 a2 a3 a4 a5 a6 a7 a8 a9 a10, om⟩ = .ok ((rangeD (-300) 600).filter (pInt fun y => decide (Meets y rows))) ⟨En a0 a2 a3 a4 a5 a6 a7 a8 a9 a10, om⟩ := by
  subst h4
  rw [comp_filter _ _ _ _ (pInt fun y => decide (Meets y rows)) id _ _ _ (by rw [rangeD_len]; simp) ?_]
  · simp
  · intro x hx
    obtain ⟨i, rfl⟩ := rangeD_int hx
    have := allmeet_ok i rows om hs
    exact ⟨_, ⟨[a0, some (.sh (.cell 1)), a2, a3, some (.sh (.lst (rows.map rowT))), a5, a6, a7, a8, a9, a10, none, some (.sh (.int i))], om⟩, rfl, by simp [this, pInt], fun _ => ⟨_, _, rfl, rfl, rfl⟩, rfl⟩
theorem found_ok' (x m : Int) (hm : 0 ≤ m) (h9 : a9 = some (.sh (.tup [.int x, .int m]))) : compGo (gNm 12) (tBl (eOp oEq (eCall F_law_d_modulo (aCons (eOp oSub (eVar 12) (eOp oIx (eVar 9) (eInt 0))) (aCons (eOp oIx (eVar 9) (eInt 1)) aNil))) (eInt 0))) (eVar 12) [12] (rangeD (-300) 600) [] ⟨En a0 a2 a3 a4 a5 a6 a7 a8 a9 a10, om⟩ = .ok ((rangeD (-300) 600).filter (pInt fun y => (y - x) % m == 0)) ⟨En a0 a2 a3 a4 a5 a6 a7 a8 a9 a10, om⟩ := by
  subst h9
  rw [comp_filter _ _ _ _ (pInt fun y => (y - x) % m == 0) id _ _ _ (by rw [rangeD_len]; simp) ?_]
  · simp
  · intro d hd
    obtain ⟨i, rfl⟩ := rangeD_int hd
    have := modulo_ok (i - x) m om hm
    exact ⟨_, ⟨[a0, some (.sh (.cell 1)), a2, a3, a4, a5, a6, a7, a8, some (.sh (.tup [.int x, .int m])), a10, none, some (.sh (.int i))], om⟩, rfl, by simp [this, pInt], fun _ => ⟨_, _, rfl, rfl, rfl⟩, rfl⟩
theorem B0_ok (h : Src om []) : ∃ g om', B0 ⟨En a0 a2 a3 a4 a5 a6 a7 a8 a9 a10, om⟩ = .nx ⟨En a0 a2 (some (.sh (.bl g))) a4 a5 a6 a7 a8 a9 a10, om'⟩ ∧ Src om' [] := by
  obtain ⟨r, om1, e1, h1, _⟩ := pick_ok h (m := 3) (pow9000 (k := 3) (by decide))
  exact ⟨r == 0, om1, by simp [B0, e1], h1⟩
theorem B1_ok (h : Src om []) (g : Bool) (h3 : a3 = some (.sh (.bl g))) : ∃ rows om', B1 ⟨En a0 a2 a3 a4 a5 a6 a7 a8 a9 a10, om⟩ = .nx ⟨En a0 a2 a3 (some (.ow (rows.map rowT))) a5 a6 a7 a8 a9 a10, om'⟩ ∧ Src om' [] ∧ Sized rows := by
  subst h3
  cases g with
  | true =>
    obtain ⟨rows, om', e, h', hs⟩ := conditions_ok h (most := 1000000000000000000) (far := 1000000000000000000000000000000) (by decide) (by decide) (by decide) (by decide)
    exact ⟨rows, om', by simp [B1, e], h', hs⟩
  | false =>
    obtain ⟨rows, om', e, h', hs⟩ := conditions_ok h (most := 12) (far := 40) (by decide) (by decide) (by decide) (by decide)
    exact ⟨rows, om', by simp [B1, e], h', hs⟩
theorem B2_ok (h : Src om []) (rows : List (Int × Int)) (hs : Sized rows) (h4 : a4 = some (.ow (rows.map rowT))) : ∃ f om', (f = rowT ∨ f = rowL) ∧ B2 ⟨En a0 a2 a3 a4 a5 a6 a7 a8 a9 a10, om⟩ = .nx ⟨En a0 a2 a3 (some (.sh (.lst (rows.map rowT)))) (some (.ow (rows.map f))) a6 a7 a8 a9 a10, om'⟩ ∧ Src om' [] := by
  subst h4
  obtain ⟨r, om1, e1, h1, _⟩ := pick_ok h (m := 2) (pow9000 (k := 3) (by decide))
  by_cases hr : r = 0
  · exact ⟨rowT, om1, .inl rfl, by simp [B2, e1, hr], h1⟩
  · have := listed a0 a2 a3 (some (.sh (.lst (rows.map rowT)))) a5 a6 a7 a8 a9 a10 om1 rows hs.1
    exact ⟨rowL, om1, .inr rfl, by simp [B2, e1, hr, this], h1⟩
theorem B3_ok (f : Int × Int → D) (hf : f = rowT ∨ f = rowL) (rows : List (Int × Int)) (hs : Sized rows) (h5 : a5 = some (.ow (rows.map f))) : ∃ v, Tells rows v ∧ B3 ⟨En a0 a2 a3 a4 a5 a6 a7 a8 a9 a10, om⟩ = .nx ⟨En a0 a2 a3 a4 (some (.sh (.lst (rows.map f)))) a6 a7 (some (.sh (.lst (rows.map rowT)))) (some (.sh v)) a10, om⟩ := by
  subst h5
  obtain ⟨v, e, t⟩ := meet_ok f hf .lst (.inl rfl) rows om hs
  have := tupled a0 a2 a3 a4 (some (.sh (.lst (rows.map f)))) a6 a7 a8 a9 a10 om f hf rows hs.1
  exact ⟨v, t, by simp [B3, e, this]⟩
theorem B4_ok (f : Int × Int → D) (hf : f = rowT ∨ f = rowL) (rows : List (Int × Int)) (hs : Sized rows) (v : D) (t : Tells rows v) (h4 : a4 = some (.sh (.lst (rows.map rowT)))) (h5 : a5 = some (.sh (.lst (rows.map f)))) (h8 : a8 = some (.sh (.lst (rows.map rowT)))) (h9 : a9 = some (.sh v)) :
    B4 ⟨En a0 a2 a3 a4 a5 a6 a7 a8 a9 a10, om⟩ = .nx ⟨En a0 a2 a3 a4 a5 a6 a7 a8 a9 a10, om⟩ := by
  subst h4 h5 h8 h9
  have e1 := tupled a0 a2 a3 (some (.sh (.lst (rows.map rowT)))) (some (.sh (.lst (rows.map f)))) a6 a7 (some (.sh (.lst (rows.map rowT)))) (some (.sh v)) a10 om f hf rows hs.1
  have e2 := right_ok rows hs v t om
  have e3 := ne_self (rowT_fine rows)
  simp [B4, e1, e2, e3]
theorem unrow {rows : List (Int × Int)} {zs : List D} (p : zs.Perm (rows.map rowT)) : ∃ rows' : List (Int × Int), zs = rows'.map rowT ∧ rows'.Perm rows := by
  let un : D → Int × Int := fun x => match x with
    | .tup [.int a, .int b] => (a, b)
    | _ => (0, 0)
  have h1 : ∀ r : Int × Int, un (rowT r) = r := fun r => rfl
  refine ⟨zs.map un, ?_, ?_⟩
  · rw [List.map_map]
    have : ∀ x ∈ zs, (rowT ∘ un) x = x := fun x hx => by
      obtain ⟨r, _, rfl⟩ := List.mem_map.mp (p.mem_iff.mp hx)
      rfl
    rw [List.map_congr_left this, List.map_id']
  · have := p.map un
    rw [List.map_map] at this
    have e : (rows.map (un ∘ rowT)) = rows := by
      rw [List.map_congr_left (f := un ∘ rowT) (g := id) fun x _ => h1 x, List.map_id]
    rwa [e] at this
theorem Sized.perm {rows rows' : List (Int × Int)} (h : Sized rows) (p : rows'.Perm rows) : Sized rows' := ⟨by rw [p.length_eq]; exact h.1, fun q hq => h.2 q (p.mem_iff.mp hq)⟩
theorem B5_ok (h : Src om []) (rows : List (Int × Int)) (hs : Sized rows) (v : D) (t : Tells rows v) (h4 : a4 = some (.sh (.lst (rows.map rowT)))) (h9 : a9 = some (.sh v)) :
    ∃ om', B5 ⟨En a0 a2 a3 a4 a5 a6 a7 a8 a9 a10, om⟩ = .nx ⟨En a0 a2 a3 a4 a5 a6 a7 a8 a9 a10, om'⟩ ∧ Src om' [] := by
  subst h4 h9
  obtain ⟨zs, om1, e1, h1, p⟩ := shuf_ok h (xs := rows.map rowT) (by have := hs.1; simp; omega)
  obtain ⟨rows', rfl, p'⟩ := unrow p
  obtain ⟨v', e2, t'⟩ := meet_ok rowT (.inl rfl) .tup (.inr rfl) rows' om1 (hs.perm p')
  have : v' = v := t'.same t (meets_perm p')
  subst this
  have e3 := ne_self (tells_fine t)
  exact ⟨om1, by simp [B5, e1, e2, e3], h1⟩
theorem filter_int {p q : Int → Bool} (h : ∀ i, p i = q i) (xs : List D) : xs.filter (pInt p) = xs.filter (pInt q) := by
  have : pInt p = pInt q := by
    funext x
    cases x <;> simp [pInt, h]
  rw [this]
theorem found_fine (p : Int → Bool) : (D.lst ((rangeD (-300) 600).filter (pInt p))).fine deep = true := by
  rw [deep_s, fine_lst]
  refine fines_all fun x hx => ?_
  obtain ⟨i, rfl⟩ := rangeD_int (List.mem_filter.mp hx).1
  simp
theorem B6_ok (rows : List (Int × Int)) (hs : Sized rows) (v : D) (t : Tells rows v) (g : Bool) (h3 : a3 = some (.sh (.bl g))) (h4 : a4 = some (.sh (.lst (rows.map rowT)))) (h9 : a9 = some (.sh v)) :
    ∃ a10', B6 ⟨En a0 a2 a3 a4 a5 a6 a7 a8 a9 a10, om⟩ = .nx ⟨En a0 a2 a3 a4 a5 a6 a7 a8 a9 a10', om⟩ := by
  subst h3 h4 h9
  cases g with
  | true => exact ⟨a10, by simp [B6]⟩
  | false =>
    have e1 := found_ok a0 a2 (some (.sh (.bl false))) (some (.sh (.lst (rows.map rowT)))) a5 a6 a7 a8 (some (.sh v)) a10 om rows hs rfl
    rcases t with ⟨rfl, t, _⟩ | ⟨x, m, rfl, n, _⟩
    · have e2 : ((rangeD (-300) 600).filter (pInt fun y => decide (Meets y rows))) = [] := by
        rw [List.filter_eq_nil_iff]
        intro d hd
        obtain ⟨i, rfl⟩ := rangeD_int hd
        simp [pInt, t i]
      rw [e2] at e1
      exact ⟨some (.sh (.lst [])), by simp [B6, e1]⟩
    · have e2 := found_ok' a0 a2 (some (.sh (.bl false))) (some (.sh (.lst (rows.map rowT)))) a5 a6 a7 a8 (some (.sh (.tup [.int x, .int m]))) (some (.sh (.lst ((rangeD (-300) 600).filter (pInt fun y => decide (Meets y rows)))))) om x m n.pos rfl
      rw [← filter_int (p := fun y => decide (Meets y rows)) (q := fun y => (y - x) % m == 0) (fun y => by
        rw [Bool.eq_iff_iff]
        simp [n.iff, Int.dvd_iff_emod_eq_zero])] at e2
      have e3 := ne_self (found_fine fun y => decide (Meets y rows))
      refine ⟨some (.sh (.lst ((rangeD (-300) 600).filter (pInt fun y => decide (Meets y rows))))), ?_⟩
      simp [B6, e1, e2, e3]
theorem TB_ok (h : Src om []) : ∃ a3' a4' a5' a8' a9' a10' om', TB ⟨En a0 a2 a3 a4 a5 a6 a7 a8 a9 a10, om⟩ = .nx ⟨En a0 a2 a3' a4' a5' a6 a7 a8' a9' a10', om'⟩ ∧ Src om' [] := by
  obtain ⟨g, om0, e0, h0⟩ := B0_ok a0 a2 a3 a4 a5 a6 a7 a8 a9 a10 om h
  obtain ⟨rows, om1, e1, h1, hs⟩ := B1_ok a0 a2 (some (.sh (.bl g))) a4 a5 a6 a7 a8 a9 a10 om0 h0 g rfl
  obtain ⟨f, om2, hf, e2, h2⟩ := B2_ok a0 a2 (some (.sh (.bl g))) _ a5 a6 a7 a8 a9 a10 om1 h1 rows hs rfl
  obtain ⟨v, t, e3⟩ := B3_ok a0 a2 (some (.sh (.bl g))) (some (.sh (.lst (rows.map rowT)))) _ a6 a7 a8 a9 a10 om2 f hf rows hs rfl
  have e4 := B4_ok a0 a2 (some (.sh (.bl g))) (some (.sh (.lst (rows.map rowT)))) _ a6 a7 _ _ a10 om2 f hf rows hs v t rfl rfl rfl rfl
  obtain ⟨om5, e5, h5⟩ := B5_ok a0 a2 (some (.sh (.bl g))) (some (.sh (.lst (rows.map rowT)))) (some (.sh (.lst (rows.map f)))) a6 a7 (some (.sh (.lst (rows.map rowT)))) (some (.sh v)) a10 om2 h2 rows hs v t rfl rfl
  obtain ⟨a10', e6⟩ := B6_ok a0 a2 (some (.sh (.bl g))) (some (.sh (.lst (rows.map rowT)))) (some (.sh (.lst (rows.map f)))) a6 a7 (some (.sh (.lst (rows.map rowT)))) (some (.sh v)) a10 om5 rows hs v t g rfl rfl rfl
  refine ⟨some (.sh (.bl g)), some (.sh (.lst (rows.map rowT))), some (.sh (.lst (rows.map f))), some (.sh (.lst (rows.map rowT))), some (.sh v), a10', om5, ?_, h5⟩
  simp only [TB, x_seq, e0, e1, e2, e3, e4, e5, e6, o_nx]
theorem loop_ok (h : Src om []) : ∃ a2' a3' a4' a5' a8' a9' a10' om', forGo (gNm 2) TB (rangeD 0 4) ⟨En a0 a2 a3 a4 a5 a6 a7 a8 a9 a10, om⟩ = .nx ⟨En a0 a2' a3' a4' a5' a6 a7 a8' a9' a10', om'⟩ ∧ Src om' [] := by
  obtain ⟨s', e, ⟨a2', a3', a4', a5', a8', a9', a10', om', rfl, h'⟩⟩ := for_inv (g := gNm 2) (b := TB) (fun _ st => ∃ a2 a3 a4 a5 a8 a9 a10 om, st = ⟨En a0 a2 a3 a4 a5 a6 a7 a8 a9 a10, om⟩ ∧ Src om []) (rangeD 0 4) ⟨En a0 a2 a3 a4 a5 a6 a7 a8 a9 a10, om⟩ ⟨_, _, _, _, _, _, _, _, rfl, h⟩ (by
    rintro x xs st ⟨a2, a3, a4, a5, a8, a9, a10, om, rfl, h⟩
    obtain ⟨a3', a4', a5', a8', a9', a10', om', e, h'⟩ := TB_ok a0 (some (.sh x)) a3 a4 a5 a6 a7 a8 a9 a10 om h
    exact ⟨_, _, rfl, .inl e, _, _, _, _, _, _, _, _, rfl, h'⟩)
  exact ⟨_, _, _, _, _, _, _, _, e, h'⟩
end
theorem NF.tells {rows : List (Int × Int)} {v : D} (t : Tells rows v) {x m : Int} (n : NF rows x m) : v = .tup [.int x, .int m] := by
  rcases t with ⟨rfl, h, _⟩ | ⟨x', m', rfl, n', _⟩
  · exact absurd n.self (h _)
  · obtain ⟨rfl, rfl⟩ := n'.uniq n fun y => Iff.rfl
    rfl
theorem NF.one {c d : Int} (hd : 0 < d) : NF [(c, d)] (c % d) d := by
  refine ⟨fun y => ?_, .inr ⟨Int.emod_nonneg _ (by omega), Int.emod_lt_of_pos _ hd⟩⟩
  rw [meets_cons]
  have h1 : d ∣ c - c % d := Int.dvd_self_sub_emod
  exact ⟨fun h => dvd_sub3 h.1 h1, fun h => ⟨dvd_sub3 h (dvd_sub_symm h1), meets_nil y⟩⟩
theorem NF.fix {c : Int} : NF [(c, 0)] c 0 := ⟨fun y => by rw [meets_cons]; exact ⟨fun h => h.1, fun h => ⟨h, meets_nil y⟩⟩, .inl rfl⟩
theorem NF.three {c d : Int} : NF [(c, 0), (c + d, d), (c - 1, 1)] c 0 := by
  refine ⟨fun y => ?_, .inl rfl⟩
  rw [meets_cons, meets_cons, meets_cons]
  refine ⟨fun h => h.1, fun h => ⟨h, ?_, Int.one_dvd _, meets_nil y⟩⟩
  have : y = c := by have := Int.zero_dvd.mp h; omega
  subst this
  exact ⟨-1, by omega⟩
theorem S2_ok (a0 a2 a3 a4 a5 a6 a7 a8 a9 a10 : Option Vl) (om : List Cell) (h : Src om []) : ∃ c d om', S2 ⟨En a0 a2 a3 a4 a5 a6 a7 a8 a9 a10, om⟩ = .nx ⟨En a0 a2 a3 a4 a5 (some (.sh (.int c))) (some (.sh (.int d))) a8 a9 a10, om'⟩ ∧ c.natAbs < 2 ^ 101 ∧ 0 < d ∧ d < 2 ^ 61 := by
  obtain ⟨c, om1, e1, h1, l1, l2⟩ := within_ok h (lo := -1000000000000000000000000000000) (hi := 1000000000000000000000000000000) (pow9000 (k := 102) (by decide)) (by decide)
  obtain ⟨r, om2, e2, h2, r0, r1, _⟩ := pick_ok h1 (m := 1000000000000000000) (pow9000 (k := 62) (by decide))
  have := r1 (by decide)
  exact ⟨c, 1 + r, om2, by simp [S2, e1, e2], by omega, by omega, by omega⟩
theorem meetT (rows : List (Int × Int)) (om : List Cell) (hs : Sized rows) : ∃ v, F_meet_numbers [.lst (rows.map rowT)] om = .ok (.sh v) om ∧ Tells rows v := meet_ok rowT (.inl rfl) .lst (.inl rfl) rows om hs
theorem meetN {rows : List (Int × Int)} (om : List Cell) (hs : Sized rows) {x m : Int} (n : NF rows x m) : F_meet_numbers [.lst (rows.map rowT)] om = .ok (.sh (.tup [.int x, .int m])) om := by
  obtain ⟨v, e, t⟩ := meetT rows om hs
  rw [e, n.tells t]
theorem law_true (ns : List Int) (hl : ns.length ≤ 63) : ∃ om, F_law [.scr ns] [] = .ok (.sh (.bl true)) om := by
  obtain ⟨om0, e0, h0⟩ := source_ok ns hl 0
  obtain ⟨a2, a3, a4, a5, a8, a9, a10, om1, e1, h1⟩ := loop_ok (some (.sh (.scr ns))) none none none none none none none none none om0 h0
  obtain ⟨c, d, om2, e2, bc, d0, d1⟩ := S2_ok (some (.sh (.scr ns))) a2 a3 a4 a5 none none a8 a9 a10 om1 h1
  refine ⟨om2, ?_⟩
  have m0 := meetN om2 (rows := []) ⟨by simp, fun p hp => by simp at hp⟩ .nil
  have m1 := meetN om2 (rows := [(c, 0)]) ⟨by simp, fun p hp => by simp at hp; subst hp; exact ⟨by simp, by show (_ : Int) < _; simp, by show c.natAbs < _; omega⟩⟩ .fix
  have m2 := meetN om2 (rows := [(c, d)]) ⟨by simp, fun p hp => by simp at hp; subst hp; exact ⟨by show 0 ≤ d; omega, by show d < _; omega, by show c.natAbs < _; omega⟩⟩ (.one d0)
  have m4 := meetN om2 (rows := [(c, 0), (c + d, d), (c - 1, 1)]) ⟨by simp, fun p hp => by
    simp at hp
    rcases hp with rfl | rfl | rfl
    · exact ⟨by simp, by show (_ : Int) < _; simp, by show c.natAbs < _; omega⟩
    · exact ⟨by show 0 ≤ d; omega, by show d < _; omega, by show (c + d).natAbs < _; omega⟩
    · exact ⟨by simp, by show (_ : Int) < _; simp, by show (c - 1).natAbs < _; omega⟩⟩ .three
  have m3 : F_meet_numbers [.lst ([(c, 0), (c + 1, 0)].map rowT)] om2 = .ok (.sh .non) om2 := by
    obtain ⟨v, e, t⟩ := meetT [(c, 0), (c + 1, 0)] om2 ⟨by simp, fun p hp => by
      simp at hp
      rcases hp with rfl | rfl
      · exact ⟨by simp, by show (_ : Int) < _; simp, by show c.natAbs < _; omega⟩
      · exact ⟨by simp, by show (_ : Int) < _; simp, by show (c + 1).natAbs < _; omega⟩⟩
    rcases t with ⟨rfl, _⟩ | ⟨x, m, rfl, n, _⟩
    · exact e
    · have := n.self
      rw [meets_cons, meets_cons] at this
      have h1 := Int.zero_dvd.mp this.1
      have h2 := Int.zero_dvd.mp this.2.1
      simp only at h1 h2
      omega
  have nt : ∀ a b : Int, oNe (.tup [.int a, .int b]) (.tup [.int a, .int b]) = some (.sh (.bl false)) := fun a b => ne_self (by simp)
  have et : ∀ a b : Int, oEq (.tup [.int a, .int b]) (.tup [.int a, .int b]) = some (.sh (.bl true)) := fun a b => eq_self (by simp)
  simp only [List.map_cons, List.map_nil, rowT] at m0 m1 m2 m3 m4
  rw [F_law_eq]
  simp [S0, S3, S4, e0, e1, e2, m0, m1, m2, m3, m4, nt, et, d0]
end Mini.K22

set_option Elab.async false
set_option linter.all false
set_option maxRecDepth 100000
/-! the end -/
open PySem PySem.W PyProof.Rows
set_option maxHeartbeats 0 in
theorem PySem.Challenge.cw_whicheverfits_k22_numbers_that_meet_all_holds : PySem.Challenge.rw_whicheverfits_k22_numbers_that_meet_all.Holds := by
  w_on; o_law; k_head; (case hw => w_witness2)
  k_fill
  refine L2.walk_of (l := PySem.Challenge.rw_whicheverfits_k22_numbers_that_meet_all) (n := 63) (k := 4) (x := "script") (CX := fun w => L2.CX PySem.Challenge.rw_whicheverfits_k22_numbers_that_meet_all.prog w) (sp := fun w => Mini.spD _ (fun _ => none) 1 Mini.K22.F_law) rfl (by decide) rfl ⟨rfl, by decide, by decide⟩ (fun w h Y => PySem.W.kIn_of Y) ?F (fun w H a ns hl _ hS => (Mini.K22.law_true ns hl).elim fun om h => Mini.script_sp hS h) (fun _ _ _ _ _ h => Mini.noCX h)
  case F =>
    intro w mg fa h KX G hmg
    refine' Mini.K22.all_mk (P := fun _ => PySem.Challenge.rw_whicheverfits_k22_numbers_that_meet_all.prog) KX G hmg ?a0 ?l0 ?c0 ?k0 ?a1 ?l1 ?c1 ?k1 ?a2 ?l2 ?c2 ?k2 ?a3 ?l3 ?c3 ?k3 ?a4 ?l4 ?c4 ?k4 ?a5 ?l5 ?c5 ?k5 ?a6 ?l6 ?c6 ?k6 ?a7 ?l7 ?c7 ?k7 ?a8 ?l8 ?c8 ?k8 ?a9 ?l9 ?c9 ?k9 ?a10 ?l10 ?c10 ?k10 ?a11 ?l11 ?c11 ?k11 ?a12 ?l12 ?c12 ?k12 ?a13 ?l13 ?c13 ?k13 ?a14 ?l14 ?c14 ?k14 ?a15 ?l15 ?c15 ?k15 ?a16 ?l16 ?c16 ?k16 ?a17 ?l17 ?c17 ?k17 ?z_abs ?z_all ?z_bool ?z_int ?z_isinstance ?z_len ?z_list ?z_min ?z_range ?z_tuple
    (case a0 => k_is); (case l0 => k_is); (case c0 => k_is); (case k0 => k_is); (case a1 => k_is); (case l1 => k_is); (case c1 => k_is); (case k1 => k_is); (case a2 => k_is); (case l2 => k_is); (case c2 => k_is); (case k2 => k_is); (case a3 => k_is); (case l3 => k_is); (case c3 => k_is); (case k3 => k_is); (case a4 => k_is); (case l4 => k_is); (case c4 => k_is); (case k4 => k_is); (case a5 => k_is); (case l5 => k_is); (case c5 => k_is); (case k5 => k_is); (case a6 => k_is); (case l6 => k_is); (case c6 => k_is); (case k6 => k_is); (case a7 => k_is); (case l7 => k_is); (case c7 => k_is); (case k7 => k_is); (case a8 => k_is); (case l8 => k_is); (case c8 => k_is); (case k8 => k_is); (case a9 => k_is); (case l9 => k_is); (case c9 => k_is); (case k9 => k_is); (case a10 => k_is); (case l10 => k_is); (case c10 => k_is); (case k10 => k_is); (case a11 => k_is); (case l11 => k_is); (case c11 => k_is); (case k11 => k_is); (case a12 => k_is); (case l12 => k_is); (case c12 => k_is); (case k12 => k_is); (case a13 => k_is); (case l13 => k_is); (case c13 => k_is); (case k13 => k_is); (case a14 => k_is); (case l14 => k_is); (case c14 => k_is); (case k14 => k_is); (case a15 => k_is); (case l15 => k_is); (case c15 => k_is); (case k15 => k_is); (case a16 => k_is); (case l16 => k_is); (case c16 => k_is); (case k16 => k_is); (case a17 => k_is); (case l17 => k_is); (case c17 => k_is); (case k17 => k_is); (case z_abs => k_is); (case z_all => k_is); (case z_bool => k_is); (case z_int => k_is); (case z_isinstance => k_is); (case z_len => k_is); (case z_list => k_is); (case z_min => k_is); (case z_range => k_is); (case z_tuple => k_is)
