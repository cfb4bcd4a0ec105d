import PyProof.Rows.All
import HandS.Base
import HandS.ForMost
import Wide.All
import OpenK.AllK
import Wide.FinOn
import HandS.Exc
import HandS.TryOnly
import HandS.ExcOwn
import HandS.WordsExc
import HandS.Lambda
import HandS.Wide
import HandS.Walk
import HandS.Zip
import HandS.Style
import HandS.TupAny
import HandS.TupMul
import HandS.IsInst
import HandS.Deep
import PyProof.EqAt
import PyProof.EqKinds
import PyProof.TupleCall
import Open.SpecLaws
import KE.OsGo
import HandS.ForSpec
import KE.KNestM
import HandS.Head0
import HandS.Head1
import HandS.Head2
import HandS.HeadEnd
import HandS.HeadHook1
import HandS.HeadHook2
import HandS.HeadHook3
import HandS.HeadHook4
import HandS.HeadWalk
import HandS.Set
import HandS.SetFor
import HandS.Strs
import HandS.SortInts
import HandS.SortRule
import HandS.Flow
import PyProof.ListRange
import PyProof.TupleOfSeq
import KE.GoesEnum
import KE.GoesZip
import KE.DataMinMax
import HandS.More
import KE.SortKeyHeap
import HandS.SortKw
import HandS.Keys
import HandS.FromBytesMap
import KE.SortData
import KE.DataCmp
import KE.KTupSum
import PySem.Challenge.RW_logsawn_k10_whole_prices_of_givings
set_option Elab.async false
set_option linter.all false
/-! The data level: values as plain trees, slots, predicate transformers without a heap. -/
namespace DL
open PySem

/-- a value as a plain tree; row: the draws' own list -/
inductive D where
  | non | bl (b : Bool) | int (i : Int) | str (x : Str) | tup (xs : List D) | lst (xs : List D)
  | dI (kvs : List (Int × D)) | dT (kvs : List (List Int × D)) | row
  /-- a list of n whole numbers that may be changed at any time -/
  | cel (n : Nat)

/-- what a name holds: nothing, data (shared, never changed any more), an object of its own -/
inductive SV where
  | un | dat (d : D) | own (xs : List D) | ownI (kvs : List (Int × D)) | ownT (kvs : List (List Int × D))

abbrev Sl := List SV
def getS (S : Sl) (i : Nat) : SV := S.getD i .un
def SV.val : SV → Option D
  | .un => none
  | .dat d => some d
  | .own xs => some (.lst xs)
  | .ownI k => some (.dI k)
  | .ownT k => some (.dT k)
/-- an operand: data, or the thing that a name holds at the time of the operation -/
inductive Src where
  | dat (d : D) | slot (i : Nat)
def okV (S : Sl) (x : Src) (k : D → Prop) : Prop :=
  match x with
  | .dat d => k d
  | .slot i => match (getS S i).val with
    | some d => k d
    | none => False
def okVs (S : Sl) : List Src → (List D → Prop) → Prop
  | [], k => k []
  | x :: xs, k => okV S x fun d => okVs S xs fun ds => k (d :: ds)

abbrev WE := Sl → (D → Sl → Prop) → Prop
abbrev WA := Sl → (List D → Sl → Prop) → Prop
abbrev WSr := Sl → (Src → Sl → Prop) → Prop
abbrev WSrs := Sl → (List Src → Sl → Prop) → Prop
abbrev WN := Sl → (SV → Sl → Prop) → Prop
abbrev WL := Sl → (List D → Sl → Prop) → Prop
abbrev WT := Sl → (Bool → Sl → Prop) → Prop
structure En where
  nx : Sl → Prop
  rt : D → Prop
  bk : Sl → Prop := fun _ => False
  ct : Sl → Prop := fun _ => False
abbrev WS := En → Sl → Prop
/-- what a def promises: arguments, what is wanted of its answer, of the name that BadArgument bears -/
abbrev DSp := List D → (D → Prop) → (Str → Prop) → Prop

/-! ### expressions -/
def wC (d : D) : WE := fun S R => R d S
def wVar (i : Nat) : WE := fun S R =>
  match getS S i with
  | .dat d => R d S
  | .own xs => R (.lst xs) (S.set i (.dat (.lst xs)))
  | .ownI k => R (.dI k) (S.set i (.dat (.dI k)))
  | .ownT k => R (.dT k) (S.set i (.dat (.dT k)))
  | .un => False
/-- operands -/
def wD (t : WE) : WSr := fun S R => t S fun d S1 => R (.dat d) S1
def wSlot (i : Nat) : WSr := fun S R =>
  match (getS S i).val with
  | some _ => R (.slot i) S
  | none => False
def wSs0 : WSrs := fun S R => R [] S
def wSs (t : WSr) (u : WSrs) : WSrs := fun S R => t S fun x S1 => u S1 fun xs S2 => R (x :: xs) S2
def wA0 : WA := fun S R => R [] S
def wAs (t : WE) (u : WA) : WA := fun S R => t S fun x S1 => u S1 fun xs S2 => R (x :: xs) S2
/-- an operation of two operands, of one, of several -/
def wOp (r : D → D → (D → Prop) → Prop) (ta tb : WSr) : WE := fun S R => ta S fun x S1 => tb S1 fun y S2 => okV S2 x fun d => okV S2 y fun e => r d e fun z => R z S2
def wUn (r : D → (D → Prop) → Prop) (ta : WSr) : WE := fun S R => ta S fun x S1 => okV S1 x fun d => r d fun z => R z S1
def wB (r : List D → (D → Prop) → Prop) (ta : WSrs) : WE := fun S R => ta S fun xs S1 => okVs S1 xs fun ds => r ds fun z => R z S1
/-- .. with a new list as its answer -/
def wOpL (r : D → D → (List D → Prop) → Prop) (ta tb : WSr) : WL := fun S R => ta S fun x S1 => tb S1 fun y S2 => okV S2 x fun d => okV S2 y fun e => r d e fun z => R z S2
def wBL (r : List D → (List D → Prop) → Prop) (ta : WSrs) : WL := fun S R => ta S fun xs S1 => okVs S1 xs fun ds => r ds fun z => R z S1
def wLst (ta : WA) : WL := fun S R => ta S fun ds S1 => ds.length ≤ 1000000 ∧ R ds S1
def wFz (t : WL) : WE := fun S R => t S fun xs S1 => R (.lst xs) S1
def wTup (ta : WA) : WE := fun S R => ta S fun ds S1 => ds.length ≤ 1000000 ∧ R (.tup ds) S1
def wCall (s : DSp) (EX : Str → Prop) (ta : WA) : WE := fun S R => ta S fun ds S1 => s ds (fun z => R z S1) EX
def wIf (t : WT) (a b : WE) : WE := fun S R => t S fun c S1 => if c = true then a S1 R else b S1 R
/-- what a name is to hold -/
def wNd (t : WE) : WN := fun S R => t S fun d S1 => R (.dat d) S1
def wNo (t : WL) : WN := fun S R => t S fun xs S1 => R (.own xs) S1
/-! ### tests -/
def truW : D → (Bool → Prop) → Prop
  | .bl b, k => k b
  | .int i, k => k (i != 0)
  | .lst xs, k => k (!xs.isEmpty)
  | .tup xs, k => k (!xs.isEmpty)
  | .non, k => k false
  | _, _ => False
def tTru (t : WSr) : WT := fun S R => t S fun x S1 => okV S1 x fun d => truW d fun b => R b S1
def tBl (t : WE) : WT := fun S R => t S fun d S1 => match d with
  | .bl b => R b S1
  | _ => False
def wNotT (t : WSr) : WE := fun S R => t S fun x S1 => okV S1 x fun d => truW d fun b => R (.bl (!b)) S1
def tAnd (t u : WT) : WT := fun S R => t S fun c S1 => if c = true then u S1 R else R false S1
def tOr (t u : WT) : WT := fun S R => t S fun c S1 => if c = true then R true S1 else u S1 R
def tNot (t : WT) : WT := fun S R => t S fun c S1 => R (!c) S1
def wAndV (ta tb : WE) : WE := fun S R => ta S fun d S1 => match d with
  | .bl c => if c = true then tb S1 R else R (.bl false) S1
  | _ => False
def wOrV (ta tb : WE) : WE := fun S R => ta S fun d S1 => match d with
  | .bl c => if c = true then R (.bl true) S1 else tb S1 R
  | _ => False
def wNotV (ta : WE) : WE := fun S R => ta S fun d S1 => match d with
  | .bl c => R (.bl (!c)) S1
  | _ => False
/-- a op b op' c -/
def wChain (r r' : D → D → (D → Prop) → Prop) (ta tb tc : WE) : WE := fun S R => ta S fun x S1 => tb S1 fun y S2 => r x y fun z => match z with
  | .bl c => if c = true then tc S2 fun w S3 => r' y w fun z' => R z' S3 else R (.bl false) S2
  | _ => False

/-! ### statements -/
def sSeq (t u : WS) : WS := fun E S => t { E with nx := u E } S
def sNext : WS := fun E S => E.nx S
def sRet (t : WE) : WS := fun E S => t S fun d _ => E.rt d
def sDrop (t : WE) : WS := fun E S => t S fun _ S1 => E.nx S1
def sIf (c : WT) (t u : WS) : WS := fun E S => c S fun b S1 => if b = true then t E S1 else u E S1
def sBreak : WS := fun E S => E.bk S
def sSet (i : Nat) (t : WN) : WS := fun E S => t S fun x S1 => E.nx (S1.set i x)
/-- targets -/
abbrev WG := D → Sl → (Sl → Prop) → Prop
abbrev WGs := List D → Sl → (Sl → Prop) → Prop
def bName (i : Nat) : WG := fun d S R => R (S.set i (.dat d))
def bNil : WGs := fun ds S R => match ds with
  | [] => R S
  | _ => False
def bCons (g : WG) (u : WGs) : WGs := fun ds S R => match ds with
  | d :: r => g d S fun S1 => u r S1 R
  | [] => False
def bTup (n : Nat) (g : WGs) : WG := fun d S R => match d with
  | .tup xs => xs.length = n ∧ g xs S R
  | _ => False
def sAsg (t : WE) (g : WG) : WS := fun E S => t S fun d S1 => g d S1 E.nx
/-- a, b = e1, e2 -/
abbrev WNs := Sl → (List SV → Sl → Prop) → Prop
def wNs0 : WNs := fun S R => R [] S
def wNs (t : WN) (u : WNs) : WNs := fun S R => t S fun x S1 => u S1 fun xs S2 => R (x :: xs) S2
def setAll : List Nat → List SV → Sl → Sl
  | i :: is, x :: xs, S => setAll is xs (S.set i x)
  | _, _, S => S
def sPar (is : List Nat) (t : WNs) : WS := fun E S => t S fun xs S1 => xs.length = is.length ∧ E.nx (setAll is xs S1)
def sAug (i : Nat) (r : D → D → (D → Prop) → Prop) (t : WE) : WS := fun E S => t S fun e S1 => match getS S1 i with
  | .dat d => r d e fun z => E.nx (S1.set i (.dat z))
  | _ => False
def addI : D → D → (D → Prop) → Prop := fun d e k => match d, e with
  | .int i, .int j => k (.int (i + j))
  | _, _ => False
def sAug' (i : Nat) (r : D → D → (D → Prop) → Prop) (t : WE) : WS := fun E S => (∃ d, getS S i = .dat d) ∧ sAug i r t E S
/-- x.append(e), x.extend(e), x[k] = e of a name that holds its own list -/
def ownS (x : SV) (k : List D → Prop) : Prop := match x with
  | .own xs => k xs
  | _ => False
def lstS (d : D) (k : List D → Prop) : Prop := match d with
  | .lst xs => k xs
  | _ => False
def intS (d : D) (k : Int → Prop) : Prop := match d with
  | .int i => k i
  | _ => False
def sAppend (i : Nat) (t : WE) : WS := fun E S => ownS (getS S i) fun _ => t S fun d S1 => ownS (getS S1 i) fun xs => xs.length < 1000000 ∧ E.nx (S1.set i (.own (xs ++ [d])))
def sExtend (i : Nat) (t : WE) : WS := fun E S => ownS (getS S i) fun _ => t S fun d S1 => ownS (getS S1 i) fun xs => lstS d fun ys => xs.length + ys.length ≤ 1000000 ∧ E.nx (S1.set i (.own (xs ++ ys)))
def ixD (n : Nat) (i : Int) : Option Nat := if 0 ≤ i then (if i < n then some i.toNat else none) else if -(n : Int) ≤ i then some (i + n).toNat else none
def sStore (i : Nat) (tk : WE) (t : WE) : WS := fun E S => t S fun d S1 => ownS (getS S1 i) fun _ => tk S1 fun k S2 => ownS (getS S2 i) fun xs => intS k fun j => ∃ m, ixD xs.length j = some m ∧ E.nx (S2.set i (.own (xs.set m d)))

/-! ### loops -/
/-- what is walked: the slots that it leans on, the things in turn -/
abbrev WI := Sl → (List Nat → List D → Sl → Prop) → Prop
def forD (g : WG) (b : WS) (E : En) : List D → Sl → Prop
  | [], S => E.nx S
  | x :: xs, S => g x S fun S1 => b { E with nx := forD g b E xs, ct := forD g b E xs, bk := E.nx } S1
def sFor (w : WI) (g : WG) (b : WS) : WS := fun E S => w S fun dep xs S1 => dep = [] ∧ forD g b E xs S1
def whD (c : WT) (b : WS) (E : En) : Nat → Sl → Prop
  | 0, _ => False
  | n + 1, S => c S fun t S1 => if t = true then b { E with nx := whD c b E n, ct := whD c b E n, bk := E.nx } S1 else E.nx S1
def sWhile (c : WT) (b : WS) : WS := fun E S => ∃ n, whD c b E n S
/-- walked: a list or tuple -/
def itW : D → (List D → Prop) → Prop
  | .lst xs, k => k xs
  | .tup xs, k => k xs
  | _, _ => False
def depS : Src → List Nat
  | .dat _ => []
  | .slot i => [i]
def iSeq (t : WSr) : WI := fun S R => t S fun x S1 => okV S1 x fun d => itW d fun xs => R (depS x) xs S1
def rngD (lo : Int) (n : Nat) : List D := (List.range n).map fun (i : Nat) => D.int (lo + (i : Int))
def rngC (lo c : Int) (n : Nat) : List D := (List.range n).map fun (i : Nat) => D.int (lo + (i : Int) * c)
def RgOk (i j : Int) : Prop := -1000000 ≤ i ∧ i ≤ 1000000 ∧ -1000000 ≤ j ∧ j ≤ 1000000
def rg1 : D → (List D → Prop) → Prop
  | .int j, k => RgOk 0 j ∧ k (rngD 0 j.toNat)
  | _, _ => False
def rg2 : D → D → (List D → Prop) → Prop
  | .int i, .int j, k => RgOk i j ∧ k (rngD i (j - i).toNat)
  | _, _, _ => False
/-- range(i, j, -1), range(i, j, 2) -/
def rg3 : D → D → D → (List D → Prop) → Prop
  | .int i, .int j, .int c, k => RgOk i j ∧ if c = -1 then k (rngC i (-1) (i - j).toNat) else if c = 2 then k (rngC i 2 ((j - i + 1) / 2).toNat) else False
  | _, _, _, _ => False
def iR1 (a : WE) : WI := fun S R => a S fun x S1 => rg1 x fun xs => R [] xs S1
def iR2 (a b : WE) : WI := fun S R => a S fun x S1 => b S1 fun y S2 => rg2 x y fun xs => R [] xs S2
def iR3 (a b c : WE) : WI := fun S R => a S fun x S1 => b S1 fun y S2 => c S2 fun z S3 => rg3 x y z fun xs => R [] xs S3
def enumD (xs : List D) : List D := xs.zipIdx.map fun p => D.tup [.int (p.2 : Int), p.1]
def iEnum (t : WSr) : WI := fun S R => t S fun x S1 => okV S1 x fun d => itW d fun xs => R (depS x) (enumD xs) S1
def zipD (xs ys : List D) : List D := (xs.zip ys).map fun p => D.tup [p.1, p.2]
def iZip (t u : WSr) : WI := fun S R => t S fun x S1 => u S1 fun y S2 => okV S2 x fun d => okV S2 y fun e => itW d fun xs => itW e fun ys => R (depS x ++ depS y) (zipD xs ys) S2
/-- comprehensions: one thing in turn, at the slots with the block's own names forgotten -/
def wipeS (S : Sl) : List Nat → Sl
  | [] => S
  | v :: vs => (wipeS S vs).set v .un
def SV.shared : SV → Bool
  | .un => true
  | .dat _ => true
  | _ => false
abbrev WTs := Sl → (Bool → Sl → Prop) → Prop
def ts0 : WTs := fun S R => R true S
def lcStep (g : WG) (t : WTs) (e : WE) (vs : List Nat) (S : Sl) (x : D) (k : Option D → Prop) : Prop :=
  g x S fun S1 => (wipeS S1 vs = S ∧ (vs.all fun v => (getS S1 v).shared) = true) ∧ t S1 fun b S2 => S2 = S1 ∧ if b = true then e S1 fun z S3 => S3 = S1 ∧ k (some z) else k none
def lcD (st : D → (Option D → Prop) → Prop) : List D → (List D → Prop) → Prop
  | [], k => k []
  | x :: xs, k => st x fun o => lcD st xs fun r => k (o.toList ++ r)
def wLc (w : WI) (g : WG) (t : WTs) (e : WE) (vs : List Nat) : WL := fun S R => w S fun dep xs S1 => (dep.all fun i => !vs.contains i) = true ∧ (vs.all fun v => (getS S1 v).shared) = true ∧ lcD (lcStep g t e vs (wipeS S1 vs)) xs fun r => R r S1
/-- raise BadArgument(e) -/
def sRaise (EX : Str → Prop) (t : WE) : WS := fun _ S => t S fun d _ => match d with
  | .str nm => EX nm
  | _ => False
/-- own things hidden -/
def hideV : SV → SV
  | .dat d => .dat d
  | _ => .un
def hideS (S : Sl) : Sl := S.map hideV
/-- _law_refused(lambda: e) -/
def wRef (t : (Str → Prop) → WE) : WE := fun S R => t (fun nm => R (.str nm) S) (hideS S) fun _ _ => R (.str "") S
def wCallK (s : DSp) (EX : Str → Prop) (n m : Nat) (ta tk : WA) : WE := fun S R => ta S fun ds S1 => tk S1 fun es S2 => ds.length = n ∧ es.length = m ∧ s (ds ++ es) (fun z => R z S2) EX
def startD (N : List Str) (ds : List D) : Sl := ds.map .dat ++ List.replicate (N.length - ds.length) .un
end DL

set_option Elab.async false
set_option linter.all false
/-! The operations at the data level. -/
namespace DL
open PySem

def okO {α : Type} (o : Option α) (k : α → Prop) : Prop := match o with
  | some a => k a
  | none => False
def MulOk (i j : Int) : Prop := (-(2 ^ 64) < i ∧ i < 2 ^ 64) ∨ (-(2 ^ 64) < j ∧ j < 2 ^ 64)
def addW : D → D → (D → Prop) → Prop
  | .int i, .int j, k => k (.int (i + j))
  | .tup a, .tup b, k => a.length + b.length ≤ 1000000 ∧ k (.tup (a ++ b))
  | _, _, _ => False
def catW : D → D → (List D → Prop) → Prop
  | .lst a, .lst b, k => a.length + b.length ≤ 1000000 ∧ k (a ++ b)
  | _, _, _ => False
def subW : D → D → (D → Prop) → Prop
  | .int i, .int j, k => k (.int (i - j))
  | _, _, _ => False
def mulW : D → D → (D → Prop) → Prop
  | .int i, .int j, k => MulOk i j ∧ k (.int (i * j))
  | .tup a, .int j, k => a.length ≤ 1000 ∧ a ≠ [] ∧ 2 ≤ j ∧ j ≤ 1000 ∧ k (.tup (List.replicate j.toNat a).flatten)
  | _, _, _ => False
def repW : D → D → (List D → Prop) → Prop
  | .lst a, .int j, k => a.length ≤ 1000 ∧ -1000 ≤ j ∧ j ≤ 1000 ∧ k (List.replicate j.toNat a).flatten
  | _, _, _ => False
def fdivW : D → D → (D → Prop) → Prop
  | .int i, .int j, k => (0 < j ∧ j < 2 ^ 256) ∧ k (.int (i / j))
  | _, _, _ => False
def modW : D → D → (D → Prop) → Prop
  | .int i, .int j, k => 0 < j ∧ k (.int (i % j))
  | _, _, _ => False
def shlW : D → D → (D → Prop) → Prop
  | .int i, .int j, k => (0 ≤ j ∧ j ≤ 1000 ∧ -1000000 ≤ i ∧ i ≤ 1000000) ∧ k (.int (i * 2 ^ j.toNat))
  | _, _, _ => False
def shrW : D → D → (D → Prop) → Prop
  | .int i, .int j, k => 0 ≤ j ∧ k (.int (i / 2 ^ j.toNat))
  | _, _, _ => False
def andW : D → D → (D → Prop) → Prop
  | .int i, .int j, k => k (.int (Builtin.bitAnd i j))
  | _, _, _ => False
def orW : D → D → (D → Prop) → Prop
  | .int i, .int j, k => k (.int (Builtin.bitOr i j))
  | _, _, _ => False
def xorW : D → D → (D → Prop) → Prop
  | .int i, .int j, k => k (.int (Builtin.bitXor i j))
  | _, _, _ => False
def negW : D → (D → Prop) → Prop
  | .int i, k => k (.int (-i))
  | _, _ => False
/-! ### comparisons -/
def ltW : D → D → (D → Prop) → Prop
  | .int i, .int j, k => k (.bl (decide (i < j)))
  | _, _, _ => False
def leW : D → D → (D → Prop) → Prop
  | .int i, .int j, k => k (.bl (decide (i ≤ j)))
  | _, _, _ => False
def gtW : D → D → (D → Prop) → Prop
  | .int i, .int j, k => k (.bl (decide (j < i)))
  | _, _, _ => False
def geW : D → D → (D → Prop) → Prop
  | .int i, .int j, k => k (.bl (decide (j ≤ i)))
  | _, _, _ => False
mutual
def toPy : D → PyData
  | .non => .none
  | .bl b => .bool b
  | .int i => .int i
  | .str x => .str x
  | .tup xs => .tuple (toPys xs)
  | .lst xs => .list (toPys xs)
  | .dI _ => .dict []
  | .dT _ => .dict []
  | .cel _ => .dict []
  | .row => .dict []
def toPys : List D → List PyData
  | [] => []
  | x :: xs => toPy x :: toPys xs
end
/-- data without dicts, not deeper than n -/
def Sh : Nat → D → Prop
  | _, .non => True
  | _, .bl _ => True
  | _, .int _ => True
  | _, .str x => PyData.strOk x = true
  | n + 1, .tup xs => ∀ x ∈ xs, Sh n x
  | n + 1, .lst xs => ∀ x ∈ xs, Sh n x
  | _, _ => False
def eqD (d e : D) : Bool := PyData.eqv (toPy d) (toPy e)
def eqW (d e : D) (k : D → Prop) : Prop := (Sh 9 d ∧ Sh 9 e) ∧ k (.bl (eqD d e))
def neW (d e : D) (k : D → Prop) : Prop := (Sh 9 d ∧ Sh 9 e) ∧ k (.bl (!eqD d e))
def isNon : D → Bool
  | .non => true
  | _ => false
/-- is None; is, of two truth values -/
def isW : D → D → (D → Prop) → Prop
  | d, .non, k => k (.bl (isNon d))
  | .bl a, .bl b, k => k (.bl (decide (a = b)))
  | _, _, _ => False
def isnW : D → D → (D → Prop) → Prop
  | d, .non, k => k (.bl (!isNon d))
  | .bl a, .bl b, k => k (.bl (!decide (a = b)))
  | _, _, _ => False
def lookI (kvs : List (Int × D)) (i : Int) : Option D := (kvs.find? fun p => decide (p.1 = i)).map (·.2)
def lookT (kvs : List (List Int × D)) (i : List Int) : Option D := (kvs.find? fun p => decide (p.1 = i)).map (·.2)
def inD (d : D) (xs : List D) : Bool := xs.any fun z => eqD z d
def inW : D → D → (D → Prop) → Prop
  | d, .lst xs, k => (Sh 8 d ∧ ∀ x ∈ xs, Sh 8 x) ∧ k (.bl (inD d xs))
  | d, .tup xs, k => (Sh 8 d ∧ ∀ x ∈ xs, Sh 8 x) ∧ k (.bl (inD d xs))
  | .int i, .dI kvs, k => k (.bl (lookI kvs i).isSome)
  | .tup ks, .dT kvs, k => ∃ ns : List Int, ks = ns.map D.int ∧ k (.bl (lookT kvs ns).isSome)
  | _, _, _ => False
def ninW : D → D → (D → Prop) → Prop
  | d, .lst xs, k => (Sh 8 d ∧ ∀ x ∈ xs, Sh 8 x) ∧ k (.bl (!inD d xs))
  | d, .tup xs, k => (Sh 8 d ∧ ∀ x ∈ xs, Sh 8 x) ∧ k (.bl (!inD d xs))
  | .int i, .dI kvs, k => k (.bl (!(lookI kvs i).isSome))
  | .tup ks, .dT kvs, k => ∃ ns : List Int, ks = ns.map D.int ∧ k (.bl (!(lookT kvs ns).isSome))
  | _, _, _ => False
/-! ### subscripts, slices, lengths -/
def atD (xs : List D) (i : Int) : Option D := L2.atI xs i
def ixW : D → D → (D → Prop) → Prop
  | .lst xs, .int i, k => okO (atD xs i) k
  | .tup xs, .int i, k => okO (atD xs i) k
  | .dI kvs, .int i, k => okO (lookI kvs i) k
  | .dT kvs, .tup ks, k => ∃ ns : List Int, ks = ns.map D.int ∧ okO (lookT kvs ns) k
  | _, _, _ => False
def cutD (xs : List D) (lo hi : Option Int) : List D := (xs.drop (HT.sIx xs.length 0 lo)).take (HT.sIx xs.length xs.length hi - HT.sIx xs.length 0 lo)
def slT (lo hi : Option Int) : D → (D → Prop) → Prop
  | .tup xs, k => k (.tup (cutD xs lo hi))
  | _, _ => False
def slL (lo hi : Option Int) : D → (List D → Prop) → Prop
  | .lst xs, k => k (cutD xs lo hi)
  | _, _ => False
def lenW : D → (D → Prop) → Prop
  | .lst xs, k => k (.int xs.length)
  | .tup xs, k => k (.int xs.length)
  | _, _ => False
def len1 : List D → (D → Prop) → Prop
  | [d], k => lenW d k
  | _, _ => False
/-! ### built-ins -/
def max2 : List D → (D → Prop) → Prop
  | [.int i, .int j], k => k (.int (max i j))
  | _, _ => False
def min2 : List D → (D → Prop) → Prop
  | [.int i, .int j], k => k (.int (min i j))
  | _, _ => False
def abs1 : List D → (D → Prop) → Prop
  | [.int i], k => k (.int (i.natAbs : Int))
  | _, _ => False
def int1 : List D → (D → Prop) → Prop
  | [.int i], k => k (.int i)
  | _, _ => False
def max1 : List D → (D → Prop) → Prop
  | [.lst xs], k => ∃ ns : List Int, xs = ns.map D.int ∧ ns ≠ [] ∧ ∀ m, m ∈ ns → (∀ y ∈ ns, y ≤ m) → k (.int m)
  | _, _ => False
def min1 : List D → (D → Prop) → Prop
  | [.lst xs], k => ∃ ns : List Int, xs = ns.map D.int ∧ ns ≠ [] ∧ ∀ m, m ∈ ns → (∀ y ∈ ns, m ≤ y) → k (.int m)
  | _, _ => False
def sum1 : List D → (D → Prop) → Prop
  | [.lst xs], k => ∃ ns : List Int, xs = ns.map D.int ∧ k (.int ns.sum)
  | _, _ => False
def all1 : List D → (D → Prop) → Prop
  | [.lst xs], k => ∃ bs : List Bool, xs = bs.map D.bl ∧ k (.bl (bs.all id))
  | _, _ => False
def any1 : List D → (D → Prop) → Prop
  | [.lst xs], k => ∃ bs : List Bool, xs = bs.map D.bl ∧ k (.bl (bs.any id))
  | _, _ => False
def tuple1 : List D → (D → Prop) → Prop
  | [.lst xs], k => k (.tup xs)
  | [.tup xs], k => k (.tup xs)
  | _, _ => False
def list1 : List D → (List D → Prop) → Prop
  | [.lst xs], k => k xs
  | [.tup xs], k => k xs
  | _, _ => False
inductive Ty where
  | int | bool | tuple | str
def isiB : D → Ty → Bool
  | .int _, .int => true
  | .bl _, .int => true
  | .bl _, .bool => true
  | .tup _, .tuple => true
  | .str _, .str => true
  | _, _ => false
def isPl : D → Prop
  | .row => False
  | .dI _ => False
  | .dT _ => False
  | .cel _ => False
  | _ => True
def isiW (ty : Ty) (d : D) (k : D → Prop) : Prop := isPl d ∧ k (.bl (isiB d ty))
def wIsi (ty : Ty) (t : WSr) : WE := fun S R => t S fun x S1 => okV S1 x fun d => isiW ty d fun z => R z S1
abbrev WO := Sl → (Option Int → Sl → Prop) → Prop
def wON : WO := fun S R => R none S
def wOS (t : WE) : WO := fun S R => t S fun d S1 => match d with
  | .int i => R (some i) S1
  | _ => False
def wSlT (t : WSr) (lo hi : WO) : WE := fun S R => t S fun x S1 => lo S1 fun i S2 => hi S2 fun j S3 => okV S3 x fun d => slT i j d fun z => R z S3
def wSlL (t : WSr) (lo hi : WO) : WL := fun S R => t S fun x S1 => lo S1 fun i S2 => hi S2 fun j S3 => okV S3 x fun d => slL i j d fun z => R z S3
def ixS : D → D → (D → Prop) → Prop
  | .lst xs, .int i, k => okO (atD xs i) k
  | .tup xs, .int i, k => okO (atD xs i) k
  | _, _, _ => False
/-- sorted(set(xs)), len(set(xs)), of whole numbers -/
def ssetW (d : D) (k : List D → Prop) : Prop := ∃ zs : List Int, (d = .lst (zs.map .int) ∨ d = .tup (zs.map .int)) ∧ zs.length < 60 ∧ ∀ ns : List Int, ns.Pairwise (· < ·) → (∀ k, k ∈ ns ↔ k ∈ zs) → k (ns.map .int)
def lsetW (d : D) (k : D → Prop) : Prop := ∃ zs : List Int, (d = .lst (zs.map .int) ∨ d = .tup (zs.map .int)) ∧ zs.length ≤ 4000 ∧ ∀ ks : List Int, ks.Nodup → (∀ k, k ∈ ks ↔ k ∈ zs) → k (.int ks.length)
def wUnL (r : D → (List D → Prop) → Prop) (ta : WSr) : WL := fun S R => ta S fun x S1 => okV S1 x fun d => r d fun z => R z S1
end DL

set_option Elab.async false
set_option linter.all false
set_option maxRecDepth 100000
set_option maxHeartbeats 4000000
/-! The data level over the heap: what it is for a tree to lie in a heap, for slots to hold things; the lifts; the judgements. -/
namespace DL
open PySem PySem.Spec PyProof.Rows L2

/-! ### trees in a heap -/
/-- a list of n whole numbers stands at a -/
def CelP (a : Addr) (n : Nat) : Heap → Prop := fun h => ∃ (ns : List Int) (its : List Value) (e : Nat), ns.length = n ∧ n ≤ 1000000 ∧ Vals (ns.map V.int) its ∧ h.get? a = some { cls := .type "list", data := .seq its.toArray e }
mutual
/-- v is the tree d, all of it within F; pr: the draws' list -/
def Rv (pr : Addr) (F : Hp) : D → V → Prop
  | .non, v => v = .non
  | .bl b, v => v = .bl b
  | .int i, v => v = .int i
  | .str x, v => v = .str x
  | .tup ds, v => ∃ a vs, v = .ref a ∧ F a = some (.tup vs) ∧ RvL pr F ds vs
  | .lst ds, v => ∃ a vs, v = .ref a ∧ F a = some (.lst vs) ∧ RvL pr F ds vs
  | .dI kvs, v => ∃ a o kws, v = .ref a ∧ F a = some (.frz o (.dK kws)) ∧ RvI pr F kvs kws
  | .dT kvs, v => ∃ a o kws, v = .ref a ∧ F a = some (.frz o (.dT kws)) ∧ RvT pr F kvs kws
  | .row, v => v = .ref pr
  | .cel n, v => ∃ a, v = .ref a ∧ F a = some (.ext (CelP a n))
def RvL (pr : Addr) (F : Hp) : List D → List V → Prop
  | [], vs => vs = []
  | d :: ds, vs => ∃ v r, vs = v :: r ∧ Rv pr F d v ∧ RvL pr F ds r
def RvI (pr : Addr) (F : Hp) : List (Int × D) → List (Key × V) → Prop
  | [], ws => ws = []
  | (k, d) :: ds, ws => ∃ v r, ws = (Sum.inl k, v) :: r ∧ Rv pr F d v ∧ RvI pr F ds r
def RvT (pr : Addr) (F : Hp) : List (List Int × D) → List (List Key × V) → Prop
  | [], ws => ws = []
  | (k, d) :: ds, ws => ∃ v r, ws = (k.map Sum.inl, v) :: r ∧ Rv pr F d v ∧ RvT pr F ds r
end
def Le (F F' : Hp) : Prop := ∀ a o, F a = some o → F' a = some o
theorem Le.refl (F : Hp) : Le F F := fun _ _ h => h
theorem Le.trans {F F1 F2 : Hp} (a : Le F F1) (b : Le F1 F2) : Le F F2 := fun c o h => b c o (a c o h)
mutual
theorem Rv.mono {pr : Addr} {F F' : Hp} (h : Le F F') : ∀ (d : D) (v : V), Rv pr F d v → Rv pr F' d v
  | .non, _, r => r
  | .bl _, _, r => r
  | .int _, _, r => r
  | .str _, _, r => r
  | .row, _, r => r
  | .cel n, _, r => by
    obtain ⟨a, e, e2⟩ := r
    exact ⟨a, e, h _ _ e2⟩
  | .tup ds, _, r => by
    obtain ⟨a, vs, e, e2, r⟩ := r
    exact ⟨a, vs, e, h _ _ e2, RvL.mono h ds vs r⟩
  | .lst ds, _, r => by
    obtain ⟨a, vs, e, e2, r⟩ := r
    exact ⟨a, vs, e, h _ _ e2, RvL.mono h ds vs r⟩
  | .dI kvs, _, r => by
    obtain ⟨a, o, vs, e, e2, r⟩ := r
    exact ⟨a, o, vs, e, h _ _ e2, RvI.mono h kvs vs r⟩
  | .dT kvs, _, r => by
    obtain ⟨a, o, vs, e, e2, r⟩ := r
    exact ⟨a, o, vs, e, h _ _ e2, RvT.mono h kvs vs r⟩
theorem RvL.mono {pr : Addr} {F F' : Hp} (h : Le F F') : ∀ (ds : List D) (vs : List V), RvL pr F ds vs → RvL pr F' ds vs
  | [], _, r => r
  | d :: ds, _, r => by
    obtain ⟨v, t, e, r1, r2⟩ := r
    exact ⟨v, t, e, Rv.mono h d v r1, RvL.mono h ds t r2⟩
theorem RvI.mono {pr : Addr} {F F' : Hp} (h : Le F F') : ∀ (ds : List (Int × D)) (vs : List (Key × V)), RvI pr F ds vs → RvI pr F' ds vs
  | [], _, r => r
  | (k, d) :: ds, _, r => by
    obtain ⟨v, t, e, r1, r2⟩ := r
    exact ⟨v, t, e, Rv.mono h d v r1, RvI.mono h ds t r2⟩
theorem RvT.mono {pr : Addr} {F F' : Hp} (h : Le F F') : ∀ (ds : List (List Int × D)) (vs : List (List Key × V)), RvT pr F ds vs → RvT pr F' ds vs
  | [], _, r => r
  | (k, d) :: ds, _, r => by
    obtain ⟨v, t, e, r1, r2⟩ := r
    exact ⟨v, t, e, Rv.mono h d v r1, RvT.mono h ds t r2⟩
end
section
variable {pr : Addr} {F : Hp}
theorem RvL.length : ∀ {ds : List D} {vs : List V}, RvL pr F ds vs → vs.length = ds.length
  | [], _, r => by rw [show _ = [] from r]; rfl
  | d :: ds, _, r => by
    obtain ⟨v, t, e, _, r2⟩ := r
    rw [e, List.length_cons, List.length_cons, RvL.length r2]
theorem RvL.get : ∀ {ds : List D} {vs : List V} {i : Nat} {d : D}, RvL pr F ds vs → ds[i]? = some d → ∃ v, vs[i]? = some v ∧ Rv pr F d v
  | [], _, _, _, _, h => by simp at h
  | d :: ds, _, 0, d', r, h => by
    obtain ⟨v, t, e, r1, r2⟩ := r
    simp at h
    subst h
    exact ⟨v, by rw [e]; rfl, r1⟩
  | d :: ds, _, i + 1, d', r, h => by
    obtain ⟨v, t, e, r1, r2⟩ := r
    obtain ⟨w, h1, h2⟩ := RvL.get (i := i) (d := d') r2 (by simpa using h)
    exact ⟨w, by rw [e]; simpa using h1, h2⟩
theorem RvL.get' {ds : List D} {vs : List V} {i : Nat} {v : V} (r : RvL pr F ds vs) (h : vs[i]? = some v) : ∃ d, ds[i]? = some d ∧ Rv pr F d v := by
  obtain ⟨hi, _⟩ := List.getElem?_eq_some_iff.mp h
  have hi' : i < ds.length := by rw [← r.length]; exact hi
  obtain ⟨w, h1, h2⟩ := r.get (List.getElem?_eq_getElem hi')
  rw [h] at h1
  cases h1
  exact ⟨_, List.getElem?_eq_getElem hi', h2⟩
theorem RvL.append : ∀ {ds es : List D} {vs ws : List V}, RvL pr F ds vs → RvL pr F es ws → RvL pr F (ds ++ es) (vs ++ ws)
  | [], _, _, _, r, s => by rw [show _ = [] from r]; exact s
  | d :: ds, _, _, _, r, s => by
    obtain ⟨v, t, e, r1, r2⟩ := r
    exact ⟨v, t ++ _, by rw [e]; rfl, r1, RvL.append r2 s⟩
theorem RvL.one {d : D} {v : V} (r : Rv pr F d v) : RvL pr F [d] [v] := ⟨v, [], rfl, r, rfl⟩
theorem RvL.set : ∀ {ds : List D} {vs : List V} {d : D} {v : V} (i : Nat), RvL pr F ds vs → Rv pr F d v → RvL pr F (ds.set i d) (vs.set i v)
  | [], _, _, _, _, r, _ => by rw [show _ = [] from r]; exact rfl
  | _ :: _, _, _, v, 0, r, s => by
    obtain ⟨_, t, e, _, r2⟩ := r
    exact ⟨v, t, by rw [e]; rfl, s, r2⟩
  | _ :: _, _, _, v, i + 1, r, s => by
    obtain ⟨w, t, e, r1, r2⟩ := r
    exact ⟨w, t.set i v, by rw [e]; rfl, r1, RvL.set i r2 s⟩
theorem RvL.take : ∀ {ds : List D} {vs : List V} (n : Nat), RvL pr F ds vs → RvL pr F (ds.take n) (vs.take n)
  | _, _, 0, _ => by simp only [List.take_zero]; exact rfl
  | [], _, n + 1, r => by rw [show _ = [] from r]; exact rfl
  | _ :: _, _, n + 1, r => by
    obtain ⟨w, t, e, r1, r2⟩ := r
    exact ⟨w, t.take n, by rw [e]; rfl, r1, RvL.take n r2⟩
theorem RvL.drop : ∀ {ds : List D} {vs : List V} (n : Nat), RvL pr F ds vs → RvL pr F (ds.drop n) (vs.drop n)
  | _, _, 0, r => r
  | [], _, n + 1, r => by rw [show _ = [] from r]; exact rfl
  | _ :: _, _, n + 1, r => by
    obtain ⟨w, t, e, r1, r2⟩ := r
    rw [e]
    exact RvL.drop n r2
theorem RvL.eraseIdx : ∀ {ds : List D} {vs : List V} (n : Nat), RvL pr F ds vs → RvL pr F (ds.eraseIdx n) (vs.eraseIdx n)
  | [], _, n, r => by rw [show _ = [] from r]; exact rfl
  | _ :: _, _, 0, r => by
    obtain ⟨w, t, e, r1, r2⟩ := r
    rw [e]
    exact r2
  | _ :: _, _, n + 1, r => by
    obtain ⟨w, t, e, r1, r2⟩ := r
    exact ⟨w, t.eraseIdx n, by rw [e]; rfl, r1, RvL.eraseIdx n r2⟩
theorem RvL.reverse : ∀ {ds : List D} {vs : List V}, RvL pr F ds vs → RvL pr F ds.reverse vs.reverse
  | [], _, r => by rw [show _ = [] from r]; exact rfl
  | d :: ds, _, r => by
    obtain ⟨w, t, e, r1, r2⟩ := r
    rw [e, List.reverse_cons, List.reverse_cons]
    exact (RvL.reverse r2).append (RvL.one r1)
theorem RvL.nil {vs : List V} (r : RvL pr F [] vs) : vs = [] := r
/-- ints -/
theorem RvL.ints : ∀ {ns : List Int} {vs : List V}, RvL pr F (ns.map D.int) vs → vs = ns.map V.int
  | [], _, r => r
  | n :: ns, _, r => by
    obtain ⟨v, t, e, r1, r2⟩ := r
    rw [e, RvL.ints r2, show v = .int n from r1]
    rfl
theorem RvL.ofInts : ∀ {ns : List Int}, RvL pr F (ns.map D.int) (ns.map V.int)
  | [] => rfl
  | n :: ns => ⟨_, _, rfl, rfl, RvL.ofInts⟩
theorem RvL.bls : ∀ {ns : List Bool} {vs : List V}, RvL pr F (ns.map D.bl) vs → vs = ns.map V.bl
  | [], _, r => r
  | n :: ns, _, r => by
    obtain ⟨v, t, e, r1, r2⟩ := r
    rw [e, RvL.bls r2, show v = .bl n from r1]
    rfl
end

/-! ### the context at the data level -/
/-- what is fixed through a def's body: the written part, the draws' list, the script, the tables of code objects, the class of the errors; the heap and the shared part at the entry -/
structure Cd where
  K : PySem.W.Frag
  T : List (Addr × Str)
  CB : Addr
  pr : Addr
  ps : Addr
  xs : List Int
  H0 : Hp
  F0 : Hp
def nt (o : HO) : Prop := ∀ ps, o ≠ .tbl ps
theorem lst_nt {vs : List V} : nt (.lst vs) := fun _ z => nomatch z
theorem tup_nt {vs : List V} : nt (.tup vs) := fun _ z => nomatch z
theorem dK_nt {vs : List (Key × V)} : nt (.dK vs) := fun _ z => nomatch z
theorem dT_nt {vs : List (List Key × V)} : nt (.dT vs) := fun _ z => nomatch z
theorem ext_nt {φ : Heap → Prop} : nt (.ext φ) := fun _ z => nomatch z
theorem frz_nt {o : Obj} {u : HO} : nt (.frz o u) := fun _ z => nomatch z
/-- nothing stands there, or a table -/
def Nn (H : Hp) (a : Addr) : Prop := ∀ o, H a = some o → ¬ nt o
theorem Nn.none {H : Hp} {a : Addr} (h : H a = Option.none) : Nn H a := fun o e => by rw [h] at e; cases e
theorem not_nn {H : Hp} {a : Addr} {o : HO} (h : H a = some o) (t : nt o) : ¬ Nn H a := fun z => z o h t
theorem nn_ex {H : Hp} {a : Addr} (h : ¬ Nn H a) : ∃ o, H a = some o ∧ nt o := by
  cases e : H a with
  | none => exact absurd (Nn.none e) h
  | some o =>
    refine ⟨o, rfl, Classical.byContradiction fun z => h fun o' e' => ?_⟩
    rw [e] at e'
    cases e'
    exact z
/-- what must hold of every heap: the draws' list, the script, the tables -/
structure Amb (K : PySem.W.Frag) (T : List (Addr × Str)) (pr ps : Addr) (xs : List Int) (H : Hp) : Prop where
  row : ∃ i s b : Int, H pr = some (.lst [.ref ps, .int i, .int s, .int b]) ∧ 0 ≤ i
  scr : SqL K H ps (xs.map V.int)
  tab : LamX.Tabs T H
/-- all that stood stands, but for the draws' list and the tables -/
structure Keep (pr : Addr) (H H' : Hp) : Prop where
  kp : ∀ b o, H b = some o → b ≠ pr → nt o → H' b = some o
  dom : ∀ b, ¬ Nn H b → ¬ Nn H' b
theorem Keep.refl (pr : Addr) (H : Hp) : Keep pr H H := ⟨fun _ _ h _ _ => h, fun _ h => h⟩
theorem Keep.trans {pr : Addr} {H H1 H2 : Hp} (a : Keep pr H H1) (b : Keep pr H1 H2) : Keep pr H H2 :=
  ⟨fun c o h n t => b.kp c o (a.kp c o h n t) n t, fun c h => b.dom c (a.dom c h)⟩
theorem Keep.of {pr : Addr} {H H' : Hp} (h : Le H H') : Keep pr H H' := ⟨fun b o e _ _ => h b o e, fun b n => by
  obtain ⟨o, e, t⟩ := nn_ex n
  exact not_nn (h b o e) t⟩
/-- a shared part of a heap -/
structure Fz (pr : Addr) (F H : Hp) : Prop where
  le : Le F H
  npr : F pr = none
  ntb : ∀ a o, F a = some o → nt o
/-- F grows by new things alone -/
structure Gr (F H F' : Hp) : Prop where
  le : Le F F'
  new : ∀ a, F' a ≠ none → F a ≠ none ∨ Nn H a
theorem Gr.refl (F H : Hp) : Gr F H F := ⟨.refl _, fun _ h => .inl h⟩

abbrev Sg := L2.St
/-- slot i is an object of its own, at p -/
def OwnAt (S : Sl) (σ : Sg) (i : Nat) (p : Addr) : Prop := ((∃ xs, getS S i = .own xs) ∨ (∃ k, getS S i = .ownI k) ∨ ∃ k, getS S i = .ownT k) ∧ σ[i]? = some (some (.ref p))
def Owned (S : Sl) (σ : Sg) (p : Addr) : Prop := ∃ i, OwnAt S σ i p
/-- what a slot holds -/
def RepS (pr : Addr) (F H H0 : Hp) (x : SV) (w : Option (Option V)) : Prop :=
  match x with
  | .un => True
  | .dat d => ∃ v, w = some (some v) ∧ Rv pr F d v
  | .own ds => ∃ p vs, w = some (some (.ref p)) ∧ H p = some (.lst vs) ∧ RvL pr F ds vs ∧ F p = none ∧ Nn H0 p ∧ p ≠ pr
  | .ownI kvs => ∃ p kws, w = some (some (.ref p)) ∧ H p = some (.dK kws) ∧ RvI pr F kvs kws ∧ F p = none ∧ Nn H0 p ∧ p ≠ pr
  | .ownT kvs => ∃ p kws, w = some (some (.ref p)) ∧ H p = some (.dT kws) ∧ RvT pr F kvs kws ∧ F p = none ∧ Nn H0 p ∧ p ≠ pr
structure Rep (c : Cd) (F : Hp) (S : Sl) (σ : Sg) (H : Hp) : Prop where
  amb0 : Amb c.K c.T c.pr c.ps c.xs c.H0
  amb : Amb c.K c.T c.pr c.ps c.xs H
  keep : Keep c.pr c.H0 H
  fz : Fz c.pr F H
  gr : Gr c.F0 c.H0 F
  slot : ∀ i, RepS c.pr F H c.H0 (getS S i) σ[i]?
  apart : ∀ i j p, OwnAt S σ i p → OwnAt S σ j p → i = j
  len : S.length = σ.length
/-- from one state to another within an expression: the slots' values stay, own things may become shared -/
structure Nx (pr : Addr) (S : Sl) (σ : Sg) (F H : Hp) (S' : Sl) (F' H' : Hp) : Prop where
  le : Le F F'
  kp : ∀ b o, H b = some o → b ≠ pr → nt o → ¬ Owned S σ b → H' b = some o
  dom : ∀ b, ¬ Nn H b → ¬ Nn H' b
  new : ∀ a, F' a ≠ none → F a ≠ none ∨ Nn H a ∨ Owned S σ a
  own : ∀ p, Owned S' σ p → Owned S σ p
theorem Nx.refl (pr : Addr) (S : Sl) (σ : Sg) (F H : Hp) : Nx pr S σ F H S F H := ⟨.refl _, fun _ _ h _ _ _ => h, fun _ h => h, fun _ h => .inl h, fun _ h => h⟩
theorem Nx.trans {pr : Addr} {S S1 S2 : Sl} {σ : Sg} {F H F1 H1 F2 H2 : Hp} (a : Nx pr S σ F H S1 F1 H1) (b : Nx pr S1 σ F1 H1 S2 F2 H2) : Nx pr S σ F H S2 F2 H2 where
  le := a.le.trans b.le
  kp := fun c o h n t w => b.kp c o (a.kp c o h n t w) n t fun z => w (a.own c z)
  dom := fun c h => b.dom c (a.dom c h)
  new := fun c h => by
    rcases b.new c h with z | z | z
    · exact a.new c z
    · by_cases e : Nn H c
      · exact .inr (.inl e)
      · exact absurd z (a.dom c e)
    · exact .inr (.inr (a.own c z))
  own := fun p h => a.own p (b.own p h)
/-- a step that keeps all that stood -/
theorem Nx.grow {pr : Addr} {S : Sl} {σ : Sg} {F H F' H' : Hp} (hl : Le H H') (g : Gr F H F') : Nx pr S σ F H S F' H' :=
  ⟨g.le, fun b o h _ _ _ => hl b o h, (Keep.of (pr := pr) hl).dom, fun a h => (g.new a h).elim .inl fun z => .inr (.inl z), fun _ h => h⟩

theorem Amb.grow {K : PySem.W.Frag} {T : List (Addr × Str)} {pr ps : Addr} {xs : List Int} {H H' : Hp} (a : Amb K T pr ps xs H) (h : Le H H') : Amb K T pr ps xs H' := by
  obtain ⟨⟨i, s, b, e, r⟩, sc, tb⟩ := a
  refine ⟨⟨i, s, b, h _ _ e, r⟩, Same.seq h sc, tb.ext h⟩
/-- an object that is no table, not the draws' list and not the script is changed -/
theorem Amb.upd {K : PySem.W.Frag} {T : List (Addr × Str)} {pr ps : Addr} {xs : List Int} {H : Hp} {p : Addr} {o o' : HO} (a : Amb K T pr ps xs H) (e : H p = some o) (t : nt o) (c : ∀ q, o ≠ LamX.CodeO p q) (n : p ≠ pr) (n2 : p ≠ ps ∨ ∃ (ob : Obj) (its : Array Value) (n : Nat), K.lookup ps = some ob ∧ ob.cls = .type "list" ∧ ob.dict = none ∧ ob.data = .seq its n ∧ its.size ≤ sizeLine ∧ Vals (xs.map V.int) its.toList) :
    Amb K T pr ps xs (upd H p o') := by
  obtain ⟨⟨i, s, b, e1, r⟩, sc, tb⟩ := a
  refine ⟨⟨i, s, b, by rw [upd_ne (Ne.symm n)]; exact e1, r⟩, ?_, fun q hq => ?_⟩
  · rcases n2 with n2 | n2
    · rcases sc with (sc | ⟨o1, sc⟩) | sc
      · exact .inl (.inl (by rw [upd_ne (Ne.symm n2)]; exact sc))
      · exact .inl (.inr ⟨o1, by rw [upd_ne (Ne.symm n2)]; exact sc⟩)
      · exact .inr sc
    · exact .inr n2
  · obtain ⟨ps', h1, h2, h3⟩ := tb q hq
    have n1 : q.1 ≠ p := fun z => by rw [z, e] at h1; cases h1; exact t _ rfl
    refine ⟨ps', by rw [upd_ne n1]; exact h1, h2, fun pos cv hc => ?_⟩
    obtain ⟨c', e1', e2'⟩ := h3 pos cv hc
    have n3 : c' ≠ p := fun z => by
      rw [z, e] at e2'
      exact c _ (Option.some.inj e2')
    exact ⟨c', e1', by rw [upd_ne n3]; exact e2'⟩
theorem lst_nc {vs : List V} {p : Addr} (q : Str) : HO.lst vs ≠ LamX.CodeO p q := fun z => by unfold LamX.CodeO at z; cases z
theorem dK_nc {vs : List (Key × V)} {p : Addr} (q : Str) : HO.dK vs ≠ LamX.CodeO p q := fun z => by unfold LamX.CodeO at z; cases z
theorem dT_nc {vs : List (List Key × V)} {p : Addr} (q : Str) : HO.dT vs ≠ LamX.CodeO p q := fun z => by unfold LamX.CodeO at z; cases z

section
variable {c : Cd} {F F' H H' : Hp} {S : Sl} {σ : Sg}
theorem RepS.grow {pr : Addr} {H0 : Hp} {x : SV} {w : Option (Option V)} (hl : Le H H') (g : Gr F H F') (r : RepS pr F H H0 x w) : RepS pr F' H' H0 x w := by
  have nF : ∀ p o, H p = some o → nt o → F p = none → F' p = none := fun p o h t n => by
    cases e : F' p with
    | none => rfl
    | some u =>
      rcases g.new p (by rw [e]; simp) with z | z
      · exact absurd n z
      · exact absurd z (not_nn h t)
  cases x with
  | un => trivial
  | dat d => obtain ⟨v, e, r⟩ := r; exact ⟨v, e, Rv.mono g.le d v r⟩
  | own ds => obtain ⟨p, vs, e, h, r, n1, n2, n3⟩ := r; exact ⟨p, vs, e, hl _ _ h, RvL.mono g.le _ _ r, nF _ _ h lst_nt n1, n2, n3⟩
  | ownI ds => obtain ⟨p, vs, e, h, r, n1, n2, n3⟩ := r; exact ⟨p, vs, e, hl _ _ h, RvI.mono g.le _ _ r, nF _ _ h dK_nt n1, n2, n3⟩
  | ownT ds => obtain ⟨p, vs, e, h, r, n1, n2, n3⟩ := r; exact ⟨p, vs, e, hl _ _ h, RvT.mono g.le _ _ r, nF _ _ h dT_nt n1, n2, n3⟩
theorem gr_trans {F0 H0 F H F' : Hp} {pr : Addr} (k : Keep pr H0 H) (a : Gr F0 H0 F) (b : Gr F H F') : Gr F0 H0 F' := ⟨a.le.trans b.le, fun x h => by
  rcases b.new x h with z | z
  · exact a.new x z
  · by_cases e : Nn H0 x
    · exact .inr e
    · exact absurd z (k.dom x e)⟩
/-- all that stood is kept, F grows by new things -/
theorem Rep.grow (r : Rep c F S σ H) (hl : Le H H') (g : Gr F H F') (z : Fz c.pr F' H') : Rep c F' S σ H' :=
  ⟨r.amb0, r.amb.grow hl, r.keep.trans (.of hl), z, gr_trans r.keep r.gr g, fun i => (r.slot i).grow hl g, r.apart, r.len⟩
/-- a new shared thing -/
theorem Fz.new {pr a : Addr} {o : HO} (z : Fz pr F H) (hn : H a = none) (t : nt o) (np : a ≠ pr) : Fz pr (upd F a o) (upd H a o) ∧ Gr F H (upd F a o) ∧ Le H (upd H a o) := by
  have nF : F a = none := by
    cases e : F a with
    | none => rfl
    | some u => rw [z.le _ _ e] at hn; cases hn
  refine ⟨⟨fun b u e => ?_, by rw [upd_ne (Ne.symm np)]; exact z.npr, fun b u e => ?_⟩, ⟨fun b u e => ?_, fun b h => ?_⟩, fun b u e => ?_⟩
  · by_cases hb : b = a
    · subst hb; rw [upd_same] at e ⊢; exact e
    · rw [upd_ne hb] at e ⊢; exact z.le _ _ e
  · by_cases hb : b = a
    · subst hb; rw [upd_same] at e; cases e; exact t
    · rw [upd_ne hb] at e; exact z.ntb _ _ e
  · rw [upd_ne (ne_of_none e nF)]; exact e
  · by_cases hb : b = a
    · subst hb; exact .inr (.none hn)
    · rw [upd_ne hb] at h; exact .inl h
  · rw [upd_ne (ne_of_none e hn)]; exact e
theorem Rep.nepr (r : Rep c F S σ H) {a : Addr} (h : H a = none) : a ≠ c.pr := fun z => by
  obtain ⟨i, s, b, e, _⟩ := r.amb.row
  rw [z, e] at h
  cases h
/-- an own thing is not the script -/
theorem Rep.neps (r : Rep c F S σ H) {p : Addr} (h : Nn c.H0 p) : p ≠ c.ps ∨ ∃ (ob : Obj) (its : Array Value) (n : Nat), c.K.lookup c.ps = some ob ∧ ob.cls = .type "list" ∧ ob.dict = none ∧ ob.data = .seq its n ∧ its.size ≤ sizeLine ∧ Vals (c.xs.map V.int) its.toList := by
  rcases r.amb0.scr with (q | ⟨o, q⟩) | q
  · exact .inl fun z => h _ (by rw [z]; exact q) lst_nt
  · exact .inl fun z => h _ (by rw [z]; exact q) frz_nt
  · exact .inr q
end
end DL

set_option Elab.async false
set_option linter.all false
set_option maxRecDepth 100000
set_option maxHeartbeats 4000000
/-! The judgements at the data level, and the rules of expressions. -/
namespace DL
open PySem PySem.Spec PyProof.Rows L2

/-! ### peeking: the thing itself may be an own one -/
def Pk (pr : Addr) (F H : Hp) : D → V → Prop
  | .lst ds, v => ∃ a vs, v = .ref a ∧ H a = some (.lst vs) ∧ RvL pr F ds vs
  | .dI kvs, v => ∃ a kws, v = .ref a ∧ Rd H a (.dK kws) ∧ RvI pr F kvs kws
  | .dT kvs, v => ∃ a kws, v = .ref a ∧ Rd H a (.dT kws) ∧ RvT pr F kvs kws
  | .tup ds, v => ∃ a vs, v = .ref a ∧ F a = some (.tup vs) ∧ RvL pr F ds vs
  | .non, v => v = .non
  | .bl b, v => v = .bl b
  | .int i, v => v = .int i
  | .str x, v => v = .str x
  | .row, v => v = .ref pr
  | .cel n, v => ∃ a, v = .ref a ∧ F a = some (.ext (CelP a n))
theorem Rv.pk {pr : Addr} {F H : Hp} {d : D} {v : V} (r : Rv pr F d v) (l : Le F H) : Pk pr F H d v := by
  cases d with
  | lst ds => obtain ⟨a, vs, e, h, q⟩ := r; exact ⟨a, vs, e, l _ _ h, q⟩
  | dI k => obtain ⟨a, o, vs, e, h, q⟩ := r; exact ⟨a, vs, e, .inr ⟨o, l _ _ h⟩, q⟩
  | dT k => obtain ⟨a, o, vs, e, h, q⟩ := r; exact ⟨a, vs, e, .inr ⟨o, l _ _ h⟩, q⟩
  | tup ds => exact r
  | _ => exact r
/-- an operand's value -/
def SrcR (pr : Addr) (F : Hp) (σ : Sg) : Src → V → Prop
  | .dat d, v => Rv pr F d v
  | .slot i, v => σ[i]? = some (some v)
theorem SrcR.mono {pr : Addr} {F F' : Hp} {σ : Sg} {x : Src} {v : V} (l : Le F F') (r : SrcR pr F σ x v) : SrcR pr F' σ x v := by
  cases x with
  | dat d => exact Rv.mono l d v r
  | slot i => exact r
def SrcRs (pr : Addr) (F : Hp) (σ : Sg) : List Src → List V → Prop
  | [], vs => vs = []
  | x :: xs, vs => ∃ v r, vs = v :: r ∧ SrcR pr F σ x v ∧ SrcRs pr F σ xs r
theorem SrcRs.mono {pr : Addr} {F F' : Hp} {σ : Sg} (l : Le F F') : ∀ {xs : List Src} {vs : List V}, SrcRs pr F σ xs vs → SrcRs pr F' σ xs vs
  | [], _, r => r
  | _ :: _, _, r => by obtain ⟨v, t, e, r1, r2⟩ := r; exact ⟨v, t, e, r1.mono l, SrcRs.mono l r2⟩
def Pks (pr : Addr) (F H : Hp) : List D → List V → Prop
  | [], vs => vs = []
  | d :: ds, vs => ∃ v r, vs = v :: r ∧ Pk pr F H d v ∧ Pks pr F H ds r
theorem Rep.pkSlot {c : Cd} {F H : Hp} {S : Sl} {σ : Sg} (r : Rep c F S σ H) {i : Nat} {d : D} {v : V} (h : (getS S i).val = some d) (hv : σ[i]? = some (some v)) : Pk c.pr F H d v := by
  have q := r.slot i
  cases e : getS S i with
  | un => rw [e] at h; cases h
  | dat d' =>
    rw [e] at h q
    cases h
    obtain ⟨w, e1, q⟩ := q
    rw [hv] at e1
    cases e1
    exact q.pk r.fz.le
  | own xs =>
    rw [e] at h q
    cases h
    obtain ⟨p, vs, e1, h1, q, _⟩ := q
    rw [hv] at e1
    cases e1
    exact ⟨p, vs, rfl, h1, q⟩
  | ownI xs =>
    rw [e] at h q
    cases h
    obtain ⟨p, vs, e1, h1, q, _⟩ := q
    rw [hv] at e1
    cases e1
    exact ⟨p, vs, rfl, .inl h1, q⟩
  | ownT xs =>
    rw [e] at h q
    cases h
    obtain ⟨p, vs, e1, h1, q, _⟩ := q
    rw [hv] at e1
    cases e1
    exact ⟨p, vs, rfl, .inl h1, q⟩
theorem okV_pk {c : Cd} {F H : Hp} {S : Sl} {σ : Sg} (r : Rep c F S σ H) {x : Src} {v : V} {k : D → Prop} (h : okV S x k) (hs : SrcR c.pr F σ x v) : ∃ d, Pk c.pr F H d v ∧ k d := by
  cases x with
  | dat d => exact ⟨d, Rv.pk hs r.fz.le, h⟩
  | slot i =>
    have h' : (match (getS S i).val with | some d => k d | none => False) := h
    cases e : (getS S i).val with
    | none => rw [e] at h'; exact h'.elim
    | some d => rw [e] at h'; exact ⟨d, r.pkSlot e hs, h'⟩
theorem okVs_pk {c : Cd} {F H : Hp} {S : Sl} {σ : Sg} (r : Rep c F S σ H) : ∀ {xs : List Src} {vs : List V} {k : List D → Prop}, okVs S xs k → SrcRs c.pr F σ xs vs → ∃ ds, Pks c.pr F H ds vs ∧ k ds
  | [], _, k, h, hs => ⟨[], hs, h⟩
  | x :: xs, _, k, h, hs => by
    obtain ⟨v, t, e, r1, r2⟩ := hs
    obtain ⟨d, p, h⟩ := okV_pk r h r1
    obtain ⟨ds, ps, h⟩ := okVs_pk r h r2
    exact ⟨d :: ds, ⟨v, t, e, p, ps⟩, h⟩

/-! ### the lifts -/
def LE (c : Cd) (t : WE) : TE := fun σ H Q => ∃ F S R, Rep c F S σ H ∧ t S R ∧ ∀ d S' v F' H', R d S' → Nx c.pr S σ F H S' F' H' → Rep c F' S' σ H' → Rv c.pr F' d v → Q v H'
def LSr (c : Cd) (t : WSr) : TE := fun σ H Q => ∃ F S R, Rep c F S σ H ∧ t S R ∧ ∀ d S' v F' H', R d S' → Nx c.pr S σ F H S' F' H' → Rep c F' S' σ H' → SrcR c.pr F' σ d v → Q v H'
def LSs (c : Cd) (t : WSrs) : TA := fun σ H Q => ∃ F S R, Rep c F S σ H ∧ t S R ∧ ∀ ds S' vs F' H', R ds S' → Nx c.pr S σ F H S' F' H' → Rep c F' S' σ H' → SrcRs c.pr F' σ ds vs → Q vs H'
def LA (c : Cd) (t : WA) : TA := fun σ H Q => ∃ F S R, Rep c F S σ H ∧ t S R ∧ ∀ ds S' vs F' H', R ds S' → Nx c.pr S σ F H S' F' H' → Rep c F' S' σ H' → RvL c.pr F' ds vs → Q vs H'
/-- a new list -/
def NewL (c : Cd) (S' : Sl) (σ : Sg) (F' H H' : Hp) (ds : List D) (p : Addr) : Prop := ∃ vs, H' p = some (.lst vs) ∧ RvL c.pr F' ds vs ∧ F' p = none ∧ Nn H p ∧ Nn c.H0 p ∧ p ≠ c.pr ∧ ¬ Owned S' σ p
def LL (c : Cd) (t : WL) : TE := fun σ H Q => ∃ F S R, Rep c F S σ H ∧ t S R ∧ ∀ ds S' p F' H', R ds S' → Nx c.pr S σ F H S' F' H' → Rep c F' S' σ H' → NewL c S' σ F' H H' ds p → Q (.ref p) H'
def LT (c : Cd) (t : WT) : TT := fun σ H Q => ∃ F S R, Rep c F S σ H ∧ t S R ∧ ∀ b S' F' H', R b S' → Nx c.pr S σ F H S' F' H' → Rep c F' S' σ H' → Q b H'
/-- what a name is to hold -/
def NvR (c : Cd) (S' : Sl) (σ : Sg) (F' H H' : Hp) (x : SV) (v : V) : Prop := RepS c.pr F' H' c.H0 x (some (some v)) ∧ match x with
  | .un => False
  | .dat _ => True
  | _ => ∀ p, v = .ref p → Nn H p ∧ ¬ Owned S' σ p
def LN (c : Cd) (t : WN) : TE := fun σ H Q => ∃ F S R, Rep c F S σ H ∧ t S R ∧ ∀ x S' v F' H', R x S' → Nx c.pr S σ F H S' F' H' → Rep c F' S' σ H' → NvR c S' σ F' H H' x v → Q v H'
abbrev DE (X : Cx) (c : Cd) (e : Expr) (t : WE) : Prop := PE X e (LE c t)
abbrev DS (X : Cx) (c : Cd) (e : Expr) (t : WSr) : Prop := PE X e (LSr c t)
abbrev DFr (X : Cx) (c : Cd) (e : Expr) (t : WL) : Prop := PE X e (LL c t)
abbrev DN (X : Cx) (c : Cd) (e : Expr) (t : WN) : Prop := PE X e (LN c t)
abbrev DT (X : Cx) (c : Cd) (e : Expr) (t : WT) : Prop := PT X e (LT c t)
abbrev DW (X : Cx) (c : Cd) (e : Expr) (t : WT) : Prop := PW X e (LT c t)
abbrev DSs (X : Cx) (c : Cd) (es : List Expr) (t : WSrs) : Prop := PA X es (LSs c t)
abbrev DAs (X : Cx) (c : Cd) (es : List Expr) (t : WA) : Prop := PA X es (LA c t)

section
variable {X : Cx} {c : Cd} {e a b : Expr} {es : List Expr} {pos : Pos}
theorem _root_.L2.PE.imp {t t' : TE} (h : PE X e t) (i : ∀ σ H Q, t' σ H Q → t σ H Q) : PE X e t' := ⟨fun pins s σ H Q I q => h.run pins s σ H Q I (i σ H Q q)⟩
theorem _root_.L2.PT.imp {t t' : TT} (h : PT X e t) (i : ∀ σ H Q, t' σ H Q → t σ H Q) : PT X e t' := ⟨fun pins s σ H Q I q => h.run pins s σ H Q I (i σ H Q q)⟩
theorem _root_.L2.PW.imp {t t' : TT} (h : PW X e t) (i : ∀ σ H Q, t' σ H Q → t σ H Q) : PW X e t' := ⟨fun wh pins s σ H Q I q => h.run wh pins s σ H Q I (i σ H Q q)⟩
theorem _root_.L2.PA.imp {t t' : TA} (h : PA X es t) (i : ∀ σ H Q, t' σ H Q → t σ H Q) : PA X es t' := ⟨fun pos pins s σ H Q I q => h.run pos pins s σ H Q I (i σ H Q q)⟩
theorem OpR.imp {f : Value → Value → Sem Value} {r r' : R2} (h : OpR X f r) (i : ∀ x y H Q, r' x y H Q → r x y H Q) : OpR X f r' := fun pins s σ H x y v u Q I rx ry q => h pins s σ H x y v u Q I rx ry (i x y H Q q)

/-! ### names and constants -/
theorem de_int {i j} : DE X c (.Constant (.int i) j pos) (wC (.int i)) := pe_int.imp fun σ H Q h => by
  obtain ⟨F, S, R, r, h, k⟩ := h
  exact k _ _ _ _ _ h (.refl ..) r rfl
theorem de_bl {i j} : DE X c (.Constant (.bool i) j pos) (wC (.bl i)) := pe_bl.imp fun σ H Q h => by
  obtain ⟨F, S, R, r, h, k⟩ := h
  exact k _ _ _ _ _ h (.refl ..) r rfl
theorem de_non {j} : DE X c (.Constant .none j pos) (wC .non) := pe_non.imp fun σ H Q h => by
  obtain ⟨F, S, R, r, h, k⟩ := h
  exact k _ _ _ _ _ h (.refl ..) r rfl
theorem de_str {x j} : DE X c (.Constant (.str x) j pos) (wC (.str x)) := pe_str.imp fun σ H Q h => by
  obtain ⟨F, S, R, r, h, k⟩ := h
  exact k _ _ _ _ _ h (.refl ..) r rfl
theorem de_glob {x : Str} {i : Int} (hg : Gl X x) (hm : ∃ t, X.mg x = some (.int i t)) (hd : (x == ("__debug__" : Str)) = false := by decide) : DE X c (.Name x pos) (wC (.int i)) := by
  obtain ⟨t, hm⟩ := hm
  refine (pe_glob (v := .int i) hg hm ⟨t, rfl⟩ hd).imp fun σ H Q h => ?_
  obtain ⟨F, S, R, r, h, k⟩ := h
  exact k _ _ _ _ _ h (.refl ..) r rfl

/-- slot i's own thing becomes shared -/
theorem getS_set_self {S : Sl} {i : Nat} {x : SV} (h : i < S.length) : getS (S.set i x) i = x := by
  unfold getS; simp [List.getD, h]
theorem getS_set_ne {S : Sl} {i j : Nat} {x : SV} (h : i ≠ j) : getS (S.set i x) j = getS S j := by
  unfold getS; simp [List.getD, h]
theorem getS_lt {S : Sl} {i : Nat} (h : getS S i ≠ .un) : i < S.length := by
  by_cases hi : i < S.length
  · exact hi
  · exfalso; apply h; unfold getS; simp [List.getD, List.getElem?_eq_none (by omega : S.length ≤ i)]
theorem own_set {S : Sl} {σ : Sg} {i : Nat} {d : D} {j : Nat} {p : Addr} (h : OwnAt (S.set i (.dat d)) σ j p) : j ≠ i ∧ OwnAt S σ j p := by
  obtain ⟨h, e⟩ := h
  by_cases hj : i = j
  · subst hj
    by_cases hi : i < S.length
    · rw [getS_set_self hi] at h
      rcases h with ⟨_, z⟩ | ⟨_, z⟩ | ⟨_, z⟩ <;> cases z
    · have : getS (S.set i (.dat d)) i = .un := by
        unfold getS
        rw [List.getD, List.getElem?_eq_none (by rw [List.length_set]; exact Nat.le_of_not_lt hi)]
        rfl
      rw [this] at h
      rcases h with ⟨_, z⟩ | ⟨_, z⟩ | ⟨_, z⟩ <;> cases z
  · rw [getS_set_ne hj] at h
    exact ⟨Ne.symm hj, h, e⟩
/-- what stays when the object at p, an own one, is shared: o' is what stands there from then on -/
theorem Rep.share {F H : Hp} {S : Sl} {σ : Sg} {i : Nat} {p : Addr} {o o' : HO} {d : D} (r : Rep c F S σ H) (ho : OwnAt S σ i p) (h : H p = some o) (t : nt o) (t' : nt o') (nc : ∀ q, o ≠ LamX.CodeO p q) (n1 : F p = none) (n2 : Nn c.H0 p) (n3 : p ≠ c.pr)
    (rv : Rv c.pr (upd F p o') d (.ref p)) (hs : ∀ H'', upd H p o' = H'' → H'' p = some o') :
    Nx c.pr S σ F H (S.set i (.dat d)) (upd F p o') (upd H p o') ∧ Rep c (upd F p o') (S.set i (.dat d)) σ (upd H p o') := by
  have le : Le F (upd F p o') := fun b u e => by rw [upd_ne (ne_of_none e n1)]; exact e
  refine ⟨⟨le, fun b u e _ _ w => by
    have : b ≠ p := fun z => w ⟨i, z ▸ ho⟩
    rw [upd_ne this]; exact e, fun b hb => ?_, fun b hb => ?_, fun q hq => ?_⟩, ⟨r.amb0, r.amb.upd h t nc n3 (r.neps n2), ⟨fun b u e n tt => ?_, fun b hb => ?_⟩, ⟨fun b u e => ?_, ?_, fun b u e => ?_⟩, ⟨r.gr.le.trans le, fun b hb => ?_⟩, fun j => ?_, fun j l q a1 a2 => ?_, by rw [List.length_set]; exact r.len⟩⟩
  · by_cases hp : b = p
    · subst hp; exact not_nn upd_same t'
    · obtain ⟨u, e, tt⟩ := nn_ex hb
      exact not_nn (by rw [upd_ne hp]; exact e) tt
  · by_cases hp : b = p
    · exact .inr (.inr ⟨i, hp ▸ ho⟩)
    · rw [upd_ne hp] at hb; exact .inl hb
  · obtain ⟨j, hj⟩ := hq
    exact ⟨j, (own_set hj).2⟩
  · have : b ≠ p := fun z => n2 u (by rw [← z]; exact e) tt
    rw [upd_ne this]; exact r.keep.kp b u e n tt
  · have : b ≠ p := fun z => by rw [z] at hb; exact hb n2
    obtain ⟨u, e, tt⟩ := nn_ex (r.keep.dom b hb)
    exact not_nn (by rw [upd_ne this]; exact e) tt
  · by_cases hp : b = p
    · subst hp; rw [upd_same] at e ⊢; exact e
    · rw [upd_ne hp] at e ⊢; exact r.fz.le _ _ e
  · rw [upd_ne (Ne.symm n3)]; exact r.fz.npr
  · by_cases hp : b = p
    · subst hp; rw [upd_same] at e; cases e; exact t'
    · rw [upd_ne hp] at e; exact r.fz.ntb _ _ e
  · by_cases hp : b = p
    · subst hp; exact .inr n2
    · rw [upd_ne hp] at hb; exact r.gr.new b hb
  · by_cases hj : i = j
    · subst hj
      have hi : i < S.length := getS_lt (by rcases ho.1 with ⟨_, z⟩ | ⟨_, z⟩ | ⟨_, z⟩ <;> rw [z] <;> simp)
      rw [getS_set_self hi]
      exact ⟨_, ho.2, rv⟩
    · rw [getS_set_ne hj]
      have q := r.slot j
      have ne : ∀ {p'}, ((∃ xs, getS S j = .own xs) ∨ (∃ k, getS S j = .ownI k) ∨ ∃ k, getS S j = .ownT k) → σ[j]? = some (some (.ref p')) → p' ≠ p := fun {p'} k1 k2 z => hj (r.apart i j p ho ⟨k1, by rw [k2, z]⟩)
      cases e : getS S j with
      | un => trivial
      | dat d' => rw [e] at q; obtain ⟨v, e1, q⟩ := q; exact ⟨v, e1, Rv.mono le _ _ q⟩
      | own ds =>
        rw [e] at q; obtain ⟨p', vs, e1, h1, q, m1, m2, m3⟩ := q
        have np := ne (.inl ⟨_, e⟩) e1
        exact ⟨p', vs, e1, by rw [upd_ne np]; exact h1, RvL.mono le _ _ q, by rw [upd_ne np]; exact m1, m2, m3⟩
      | ownI ds =>
        rw [e] at q; obtain ⟨p', vs, e1, h1, q, m1, m2, m3⟩ := q
        have np := ne (.inr (.inl ⟨_, e⟩)) e1
        exact ⟨p', vs, e1, by rw [upd_ne np]; exact h1, RvI.mono le _ _ q, by rw [upd_ne np]; exact m1, m2, m3⟩
      | ownT ds =>
        rw [e] at q; obtain ⟨p', vs, e1, h1, q, m1, m2, m3⟩ := q
        have np := ne (.inr (.inr ⟨_, e⟩)) e1
        exact ⟨p', vs, e1, by rw [upd_ne np]; exact h1, RvT.mono le _ _ q, by rw [upd_ne np]; exact m1, m2, m3⟩
  · exact r.apart j l q (own_set a1).2 (own_set a2).2
/-- a name, as a value -/
theorem de_var {i : Nat} {x : Str} (hN : X.N[i]? = some x) (hv : Vis X.env.scope x) (hd : (x == ("__debug__" : Str)) = false := by decide) (hcd : (x == ("__classdict__" : Str)) = false := by decide) : DE X c (.Name x pos) (wVar i) := by
  refine ⟨fun pins s σ H Q I h => ?_⟩
  obtain ⟨F, S, R, r, h, k⟩ := h
  have q := r.slot i
  have run : ∀ (v : V) (H' : Hp), σ[i]? = some (some v) → Inv X pins σ H' s → Q v H' → wpAny (model X.prog X.w) X.A (eval (.Name x pos) X.env) (EP X pins σ Q) X.xe s := fun v H' e I' q => (pe_var (pos := pos) hN hv hd hcd).run pins s σ H' Q I' ⟨v, e, q⟩
  unfold wVar at h
  cases e : getS S i with
  | un => rw [e] at h; exact h.elim
  | dat d =>
    rw [e] at h q
    obtain ⟨v, e1, q⟩ := q
    exact run v H e1 I (k _ _ _ _ _ h (.refl ..) r q)
  | own ds =>
    rw [e] at h q
    obtain ⟨p, vs, e1, h1, q, n1, n2, n3⟩ := q
    have le : Le F (upd F p (.lst vs)) := fun b u e => by rw [upd_ne (ne_of_none e n1)]; exact e
    obtain ⟨nx, r'⟩ := r.share (d := .lst ds) (o' := .lst vs) ⟨.inl ⟨_, e⟩, e1⟩ h1 lst_nt lst_nt (fun q => lst_nc q) n1 n2 n3 ⟨p, vs, rfl, upd_same, RvL.mono le _ _ q⟩ (fun _ z => by rw [← z]; exact upd_same)
    have eH : upd H p (.lst vs) = H := by
      funext b
      by_cases hb : b = p
      · subst hb; rw [upd_same, h1]
      · rw [upd_ne hb]
    rw [eH] at nx r'
    exact run _ H e1 I (k _ _ _ _ _ h nx r' ⟨p, vs, rfl, upd_same, RvL.mono le _ _ q⟩)
  | ownI ds =>
    rw [e] at h q
    obtain ⟨p, vs, e1, h1, q, n1, n2, n3⟩ := q
    obtain ⟨od, I'⟩ := I.lock h1 trivial
    have le : Le F (upd F p (.frz od (.dK vs))) := fun b u e => by rw [upd_ne (ne_of_none e n1)]; exact e
    have rv : Rv c.pr (upd F p (.frz od (.dK vs))) (.dI ds) (.ref p) := ⟨p, od, vs, rfl, upd_same, RvI.mono le _ _ q⟩
    obtain ⟨nx, r'⟩ := r.share (d := .dI ds) (o' := .frz od (.dK vs)) ⟨.inr (.inl ⟨_, e⟩), e1⟩ h1 dK_nt frz_nt (fun q => dK_nc q) n1 n2 n3 rv (fun _ z => by rw [← z]; exact upd_same)
    exact run _ _ e1 I' (k _ _ _ _ _ h nx r' rv)
  | ownT ds =>
    rw [e] at h q
    obtain ⟨p, vs, e1, h1, q, n1, n2, n3⟩ := q
    obtain ⟨od, I'⟩ := I.lock h1 trivial
    have le : Le F (upd F p (.frz od (.dT vs))) := fun b u e => by rw [upd_ne (ne_of_none e n1)]; exact e
    have rv : Rv c.pr (upd F p (.frz od (.dT vs))) (.dT ds) (.ref p) := ⟨p, od, vs, rfl, upd_same, RvT.mono le _ _ q⟩
    obtain ⟨nx, r'⟩ := r.share (d := .dT ds) (o' := .frz od (.dT vs)) ⟨.inr (.inr ⟨_, e⟩), e1⟩ h1 dT_nt frz_nt (fun q => dT_nc q) n1 n2 n3 rv (fun _ z => by rw [← z]; exact upd_same)
    exact run _ _ e1 I' (k _ _ _ _ _ h nx r' rv)
/-! ### operands -/
theorem ds_d {t : WE} (h : DE X c e t) : DS X c e (wD t) := h.imp fun σ H Q q => by
  obtain ⟨F, S, R, r, q, k⟩ := q
  exact ⟨F, S, fun d S1 => R (.dat d) S1, r, q, fun d S' v F' H' h1 h2 h3 h4 => k _ _ _ _ _ h1 h2 h3 h4⟩
theorem ds_slot {i : Nat} {x : Str} (hN : X.N[i]? = some x) (hv : Vis X.env.scope x) (hd : (x == ("__debug__" : Str)) = false := by decide) (hcd : (x == ("__classdict__" : Str)) = false := by decide) : DS X c (.Name x pos) (wSlot i) := by
  refine (pe_var hN hv hd hcd).imp fun σ H Q q => ?_
  obtain ⟨F, S, R, r, q, k⟩ := q
  unfold wSlot at q
  have sl := r.slot i
  cases e : getS S i with
  | un => rw [e] at q; exact q.elim
  | dat d => rw [e] at q sl; obtain ⟨v, e1, _⟩ := sl; exact ⟨v, e1, k _ _ _ _ _ q (.refl ..) r e1⟩
  | own d => rw [e] at q sl; obtain ⟨v, _, e1, _⟩ := sl; exact ⟨_, e1, k _ _ _ _ _ q (.refl ..) r e1⟩
  | ownI d => rw [e] at q sl; obtain ⟨v, _, e1, _⟩ := sl; exact ⟨_, e1, k _ _ _ _ _ q (.refl ..) r e1⟩
  | ownT d => rw [e] at q sl; obtain ⟨v, _, e1, _⟩ := sl; exact ⟨_, e1, k _ _ _ _ _ q (.refl ..) r e1⟩
theorem dss_nil : DSs X c [] wSs0 := pa_nil.imp fun σ H Q q => by
  obtain ⟨F, S, R, r, q, k⟩ := q
  exact k _ _ _ _ _ q (.refl ..) r rfl
theorem dss_cons {t : WSr} {u : WSrs} (h : DS X c e t) (hr : DSs X c es u) (hs : starEach (e :: es) X.env = (false, eval e X.env) :: starEach es X.env := by rfl) : DSs X c (e :: es) (wSs t u) := (pa_cons h hr hs).imp fun σ H Q q => by
  obtain ⟨F, S, R, r, q, k⟩ := q
  exact ⟨F, S, _, r, q, fun x S1 v F1 H1 q n1 r1 rx => ⟨F1, S1, _, r1, q, fun xs S2 vs F2 H2 q n2 r2 rxs => k _ _ _ _ _ q (n1.trans n2) r2 ⟨v, vs, rfl, rx.mono n2.le, rxs⟩⟩⟩
theorem da_nil : DAs X c [] wA0 := pa_nil.imp fun σ H Q q => by
  obtain ⟨F, S, R, r, q, k⟩ := q
  exact k _ _ _ _ _ q (.refl ..) r rfl
theorem da_cons {t : WE} {u : WA} (h : DE X c e t) (hr : DAs X c es u) (hs : starEach (e :: es) X.env = (false, eval e X.env) :: starEach es X.env := by rfl) : DAs X c (e :: es) (wAs t u) := (pa_cons h hr hs).imp fun σ H Q q => by
  obtain ⟨F, S, R, r, q, k⟩ := q
  exact ⟨F, S, _, r, q, fun x S1 v F1 H1 q n1 r1 rx => ⟨F1, S1, _, r1, q, fun xs S2 vs F2 H2 q n2 r2 rxs => k _ _ _ _ _ q (n1.trans n2) r2 ⟨v, vs, rfl, Rv.mono n2.le _ _ rx, rxs⟩⟩⟩
/-! ### operations by values -/
/-- of an operation with operands d, e at the values x, y: every answer that r lets through is laid -/
def L2v (c : Cd) (r : D → D → (D → Prop) → Prop) : R2 := fun x y H Q => ∃ F d e R, Fz c.pr F H ∧ (∀ a, H a = none → a ≠ c.pr) ∧ Pk c.pr F H d x ∧ Pk c.pr F H e y ∧ r d e R ∧ ∀ z v F' H', R z → Le H H' → Gr F H F' → Fz c.pr F' H' → Rv c.pr F' z v → Q v H'
def L1v (c : Cd) (r : D → (D → Prop) → Prop) : V → Hp → VK → Prop := fun x H Q => ∃ F d R, Fz c.pr F H ∧ (∀ a, H a = none → a ≠ c.pr) ∧ Pk c.pr F H d x ∧ r d R ∧ ∀ z v F' H', R z → Le H H' → Gr F H F' → Fz c.pr F' H' → Rv c.pr F' z v → Q v H'
def LNv (c : Cd) (r : List D → (D → Prop) → Prop) : List V → Hp → VK → Prop := fun xs H Q => ∃ F ds R, Fz c.pr F H ∧ (∀ a, H a = none → a ≠ c.pr) ∧ Pks c.pr F H ds xs ∧ r ds R ∧ ∀ z v F' H', R z → Le H H' → Gr F H F' → Fz c.pr F' H' → Rv c.pr F' z v → Q v H'
abbrev DOp (X : Cx) (c : Cd) (f : Value → Value → Sem Value) (r : D → D → (D → Prop) → Prop) : Prop := OpR X f (L2v c r)
theorem op_lift {r : D → D → (D → Prop) → Prop} {ta tb : WSr} {σ : Sg} {H : Hp} {Q : VK} (h : LE c (wOp r ta tb) σ H Q) : tOp (L2v c r) (LSr c ta) (LSr c tb) σ H Q := by
  obtain ⟨F, S, R, rp, h, k⟩ := h
  refine ⟨F, S, _, rp, h, fun x S1 v F1 H1 q n1 r1 rx => ⟨F1, S1, _, r1, q, fun y S2 u F2 H2 q n2 r2 ry => ?_⟩⟩
  obtain ⟨d, pd, q⟩ := okV_pk r2 q (rx.mono n2.le)
  obtain ⟨e, pe, q⟩ := okV_pk r2 q ry
  exact ⟨F2, d, e, _, r2.fz, fun a h => r2.nepr h, pd, pe, q, fun z w F' H' q l g f rv => k z S2 w F' H' q ((n1.trans n2).trans (.grow l g)) (r2.grow l g f) rv⟩
theorem de_op {op : Operator} {r : D → D → (D → Prop) → Prop} {ta tb : WSr} (ho : DOp X c (binaryOp op) r) (ha : DS X c a ta) (hb : DS X c b tb) : DE X c (.BinOp a op b pos) (wOp r ta tb) := (pe_op ho ha hb).imp fun _ _ _ => op_lift
theorem de_cmp {op : CmpOp} {r : D → D → (D → Prop) → Prop} {ta tb : WSr} (ho : DOp X c (compareOp op) r) (ha : DS X c a ta) (hb : DS X c b tb) (hm : behindInMarks op b = false := by first | exact nomark _ | rfl) : DE X c (.Compare a [op] [b] pos) (wOp r ta tb) := (pe_cmpR ho ha hb hm).imp fun _ _ _ => op_lift
theorem de_un {op : UnaryOp} {r : D → (D → Prop) → Prop} {ta : WSr} (ho : UnR X (unaryOp op) (L1v c r)) (ha : DS X c a ta) : DE X c (.UnaryOp op a pos) (wUn r ta) := (pe_un ho ha).imp fun σ H Q h => by
  obtain ⟨F, S, R, rp, h, k⟩ := h
  refine ⟨F, S, _, rp, h, fun x S1 v F1 H1 q n1 r1 rx => ?_⟩
  obtain ⟨d, pd, q⟩ := okV_pk r1 q rx
  exact ⟨F1, d, _, r1.fz, fun a h => r1.nepr h, pd, q, fun z w F' H' q l g f rv => k z S1 w F' H' q (n1.trans (.grow l g)) (r1.grow l g f) rv⟩
theorem b_lift {r : List D → (D → Prop) → Prop} {ta : WSrs} {σ : Sg} {H : Hp} {Q : VK} (h : LE c (wB r ta) σ H Q) : tCB (LNv c r) (LSs c ta) σ H Q := by
  obtain ⟨F, S, R, rp, h, k⟩ := h
  refine ⟨F, S, _, rp, h, fun x S1 v F1 H1 q n1 r1 rx => ?_⟩
  obtain ⟨d, pd, q⟩ := okVs_pk r1 q rx
  exact ⟨F1, d, _, r1.fz, fun a h => r1.nepr h, pd, q, fun z w F' H' q l g f rv => k z S1 w F' H' q (n1.trans (.grow l g)) (r1.grow l g f) rv⟩
theorem de_b {id : String} {x : Str} {p : Pos} {r : List D → (D → Prop) → Prop} {ta : WSrs} (ho : CallR X (.builtin id) (LNv c r)) (hg : Gl X x) (hm : X.mg x = none) (hv : bootBuiltins x = some (.builtin id)) (ha : DSs X c (e :: es) ta) (hn : x ≠ "__name__" := by decide) (hdb : (x == ("__debug__" : Str)) = false := by decide)
    (he : starEach (e :: es) X.env = (false, eval e X.env) :: starEach es X.env := by rfl) (hpl : (backTo pos (starEach es X.env)).any (·.1) = false := by rfl) : DE X c (.Call (.Name x p) (e :: es) [] pos) (wB r ta) := (pe_callB ho hg hm hv ha hn hdb he hpl).imp fun _ _ _ => b_lift
theorem de_bTy {id : String} {x : Str} {p : Pos} {r : List D → (D → Prop) → Prop} {ta : WSrs} (ho : CallR X (.type id) (LNv c r)) (hg : Gl X x) (hm : X.mg x = none) (hv : bootBuiltins x = some (.type id)) (ha : DSs X c (e :: es) ta) (hn : x ≠ "__name__" := by decide) (hdb : (x == ("__debug__" : Str)) = false := by decide)
    (he : starEach (e :: es) X.env = (false, eval e X.env) :: starEach es X.env := by rfl) (hpl : (backTo pos (starEach es X.env)).any (·.1) = false := by rfl) : DE X c (.Call (.Name x p) (e :: es) [] pos) (wB r ta) := (pe_callTy ho hg hm hv ha hn hdb he hpl).imp fun _ _ _ => b_lift
end
end DL

set_option Elab.async false
set_option linter.all false
set_option maxRecDepth 100000
set_option maxHeartbeats 4000000
/-! The operations by values, over the heap. -/
namespace DL
open PySem PySem.Spec PyProof.Rows L2
theorem line_le {n : Nat} (h : n ≤ 1000000) : n ≤ sizeLine := by rw [sizeLine_eq]; omega
theorem line_lt {n : Nat} (h : n ≤ 1000000) : n < sizeLine := by rw [sizeLine_eq]; omega
section
variable {X : Cx} {c : Cd} {F H : Hp}
/-- a new shared thing at p -/
theorem laid {Q : VK} {R : D → Prop} {z : D} {p : Addr} {o : HO} (fz : Fz c.pr F H) (np : ∀ a, H a = none → a ≠ c.pr) (k : ∀ z v F' H', R z → Le H H' → Gr F H F' → Fz c.pr F' H' → Rv c.pr F' z v → Q v H') (hp : H p = none) (t : nt o) (q : R z) (rv : Rv c.pr (upd F p o) z (.ref p)) : Q (.ref p) (upd H p o) := by
  obtain ⟨f, g, l⟩ := fz.new hp t (np p hp)
  exact k z _ _ _ q l g f rv
theorem leF {p : Addr} {o : HO} (fz : Fz c.pr F H) (hp : H p = none) : Le F (upd F p o) := fun b u e => by
  have : b ≠ p := fun z => by rw [z] at e; rw [fz.le _ _ e] at hp; cases hp
  rw [upd_ne this]; exact e
theorem Pk.sqt {ds : List D} {v : V} (p : Pk c.pr F H (.tup ds) v) (fz : Fz c.pr F H) {K : PySem.W.Frag} : ∃ a vs, v = .ref a ∧ SqT K H a vs ∧ RvL c.pr F ds vs ∧ F a = some (.tup vs) := by
  obtain ⟨a, vs, e, h, r⟩ := p
  exact ⟨a, vs, e, .of (fz.le _ _ h), r, h⟩
theorem Pk.sql {ds : List D} {v : V} (p : Pk c.pr F H (.lst ds) v) {K : PySem.W.Frag} : ∃ a vs, v = .ref a ∧ SqL K H a vs ∧ RvL c.pr F ds vs ∧ H a = some (.lst vs) := by
  obtain ⟨a, vs, e, h, r⟩ := p
  exact ⟨a, vs, e, .of h, r, h⟩
/-- an operation on ints that gives an int -/
theorem dop_int {f : Value → Value → Sem Value} {C : Int → Int → Prop} {g : Int → Int → V} {g' : Int → Int → D} {r : D → D → (D → Prop) → Prop} (h : OpR X f (rI C g)) (hr : ∀ d e k, r d e k → ∃ i j, d = .int i ∧ e = .int j ∧ C i j ∧ k (g' i j)) (hg : ∀ i j F, Rv c.pr F (g' i j) (g i j)) : DOp X c f r := OpR.imp h fun x y H Q q => by
  obtain ⟨F, d, e, R, fz, np, p1, p2, q, k⟩ := q
  obtain ⟨i, j, rfl, rfl, hc, q'⟩ := hr _ _ _ q
  exact ⟨i, j, p1, p2, hc, k _ _ _ _ q' (.refl _) (.refl _ _) fz (hg i j F)⟩
theorem dop_int0 {f : Value → Value → Sem Value} {g : Int → Int → V} {g' : Int → Int → D} {r : D → D → (D → Prop) → Prop} (h : OpR X f (rI0 g)) (hr : ∀ d e k, r d e k → ∃ i j, d = .int i ∧ e = .int j ∧ k (g' i j)) (hg : ∀ i j F, Rv c.pr F (g' i j) (g i j)) : DOp X c f r := OpR.imp h fun x y H Q q => by
  obtain ⟨F, d, e, R, fz, np, p1, p2, q, k⟩ := q
  obtain ⟨i, j, rfl, rfl, q'⟩ := hr _ _ _ q
  exact ⟨i, j, p1, p2, k _ _ _ _ q' (.refl _) (.refl _ _) fz (hg i j F)⟩
theorem o_sub : DOp X c (binaryOp .Sub) subW := dop_int0 (g' := fun i j => D.int (i - j)) op_sub (fun d e k q => by
  cases d <;> cases e <;> first | exact ⟨_, _, rfl, rfl, q⟩ | exact q.elim) fun _ _ _ => rfl
theorem o_fdiv : DOp X c (binaryOp .FloorDiv) fdivW := dop_int (g' := fun i j => D.int (i / j)) op_fdivW (fun d e k q => by
  cases d <;> cases e <;> first | exact ⟨_, _, rfl, rfl, wide_div (b := 256) q.1.1 (by have := q.1.1; have := q.1.2; omega) (by decide) (by decide), q.2⟩ | exact q.elim) fun _ _ _ => rfl
theorem o_mod : DOp X c (binaryOp .Mod) modW := dop_int (g' := fun i j => D.int (i % j)) op_mod (fun d e k q => by
  cases d <;> cases e <;> first | exact ⟨_, _, rfl, rfl, q.1, q.2⟩ | exact q.elim) fun _ _ _ => rfl
theorem o_shl : DOp X c (binaryOp .LShift) shlW := dop_int (g' := fun i j => D.int (i * 2 ^ j.toNat)) op_shl (fun d e k q => by
  cases d <;> cases e <;> first | exact ⟨_, _, rfl, rfl, ⟨q.1.1, by have := q.1.2.1; omega, by have := q.1.2.2.1; have := q.1.2.2.2; omega⟩, q.2⟩ | exact q.elim) fun _ _ _ => rfl
theorem o_shr : DOp X c (binaryOp .RShift) shrW := dop_int (g' := fun i j => D.int (i / 2 ^ j.toNat)) op_shr (fun d e k q => by
  cases d <;> cases e <;> first | exact ⟨_, _, rfl, rfl, q.1, q.2⟩ | exact q.elim) fun _ _ _ => rfl
theorem o_and : DOp X c (binaryOp .BitAnd) andW := dop_int0 (g' := fun i j => D.int (Builtin.bitAnd i j)) op_and (fun d e k q => by
  cases d <;> cases e <;> first | exact ⟨_, _, rfl, rfl, q⟩ | exact q.elim) fun _ _ _ => rfl
theorem o_or : DOp X c (binaryOp .BitOr) orW := dop_int0 (g' := fun i j => D.int (Builtin.bitOr i j)) op_or (fun d e k q => by
  cases d <;> cases e <;> first | exact ⟨_, _, rfl, rfl, q⟩ | exact q.elim) fun _ _ _ => rfl
theorem o_xor : DOp X c (binaryOp .BitXor) xorW := dop_int0 (g' := fun i j => D.int (Builtin.bitXor i j)) op_xor (fun d e k q => by
  cases d <;> cases e <;> first | exact ⟨_, _, rfl, rfl, q⟩ | exact q.elim) fun _ _ _ => rfl
theorem o_lt : DOp X c (compareOp .Lt) ltW := dop_int0 (g' := fun i j => D.bl (decide (i < j))) op_lt (fun d e k q => by
  cases d <;> cases e <;> first | exact ⟨_, _, rfl, rfl, q⟩ | exact q.elim) fun _ _ _ => rfl
theorem o_le : DOp X c (compareOp .LtE) leW := dop_int0 (g' := fun i j => D.bl (decide (i ≤ j))) op_le (fun d e k q => by
  cases d <;> cases e <;> first | exact ⟨_, _, rfl, rfl, q⟩ | exact q.elim) fun _ _ _ => rfl
theorem o_gt : DOp X c (compareOp .Gt) gtW := dop_int0 (g' := fun i j => D.bl (decide (j < i))) op_gt (fun d e k q => by
  cases d <;> cases e <;> first | exact ⟨_, _, rfl, rfl, q⟩ | exact q.elim) fun _ _ _ => rfl
theorem o_ge : DOp X c (compareOp .GtE) geW := dop_int0 (g' := fun i j => D.bl (decide (j ≤ i))) op_ge (fun d e k q => by
  cases d <;> cases e <;> first | exact ⟨_, _, rfl, rfl, q⟩ | exact q.elim) fun _ _ _ => rfl
theorem mulok {i j : Int} (h : MulOk i j) : CMul i j := h
theorem o_add : DOp X c (binaryOp .Add) addW := by
  intro pins s σ H x y v u Q I rx ry q
  obtain ⟨F, d, e, R, fz, np, p1, p2, q, k⟩ := q
  cases d <;> cases e <;> first
    | exact op_add pins s σ H x y v u Q I rx ry ⟨_, _, p1, p2, k _ _ _ _ q (.refl _) (.refl _ _) fz rfl⟩
    | exact q.elim
    | skip
  rename_i xs ys
  obtain ⟨a, vs, rfl, h1, r1, f1⟩ := p1.sqt (K := X.K) fz
  obtain ⟨b, ws, rfl, h2, r2, f2⟩ := p2.sqt (K := X.K) fz
  refine op_catA pins s σ H _ _ v u Q I rx ry ⟨a, b, vs, ws, rfl, rfl, h1, h2, by rw [r1.length, r2.length]; exact line_le q.1, fun e => ?_, fun _ e => ?_, fun _ _ p hp => ?_⟩
  · have ex : xs = [] := by have := r1.length; rw [e] at this; exact List.eq_nil_of_length_eq_zero this.symm
    subst ex
    exact k _ _ _ _ q.2 (.refl _) (.refl _ _) fz ⟨b, ws, rfl, f2, r2⟩
  · have ex : ys = [] := by have := r2.length; rw [e] at this; exact List.eq_nil_of_length_eq_zero this.symm
    subst ex
    exact k _ _ _ _ q.2 (.refl _) (.refl _ _) fz ⟨a, vs, rfl, f1, by rw [List.append_nil]; exact r1⟩
  · have l := leF (o := .tup (vs ++ ws)) fz hp
    exact laid fz np k hp tup_nt q.2 ⟨p, _, rfl, upd_same, (RvL.mono l _ _ r1).append (RvL.mono l _ _ r2)⟩
/-! ### data as PyData -/
mutual
theorem Rv.dp {K : PySem.W.Frag} {pr : Addr} {F H : Hp} (l : Le F H) : ∀ (n : Nat) (d : D) (v : V), Sh n d → Rv pr F d v → Dp K H v (toPy d)
  | n, .non, _, _, r => by rw [show _ = V.non from r]; unfold toPy; exact .non
  | n, .bl b, _, _, r => by rw [show _ = V.bl b from r]; unfold toPy; exact .bl b
  | n, .int b, _, _, r => by rw [show _ = V.int b from r]; unfold toPy; exact .int b
  | n, .str b, _, _, r => by rw [show _ = V.str b from r]; unfold toPy; exact .str b
  | n + 1, .tup ds, _, s, r => by
    obtain ⟨a, vs, e, h, r⟩ := r
    rw [e]; unfold toPy
    exact .tup (.of (l _ _ h)) (RvL.dp l n ds vs s r)
  | n + 1, .lst ds, _, s, r => by
    obtain ⟨a, vs, e, h, r⟩ := r
    rw [e]; unfold toPy
    exact .lst (.of (l _ _ h)) (RvL.dp l n ds vs s r)
  | 0, .tup _, _, s, _ => (show False from s).elim
  | 0, .lst _, _, s, _ => (show False from s).elim
  | 0, .dI _, _, s, _ => (show False from s).elim
  | 0, .dT _, _, s, _ => (show False from s).elim
  | 0, .cel _, _, s, _ => (show False from s).elim
  | 0, .row, _, s, _ => (show False from s).elim
  | n + 1, .dI _, _, s, _ => (show False from s).elim
  | n + 1, .dT _, _, s, _ => (show False from s).elim
  | n + 1, .cel _, _, s, _ => (show False from s).elim
  | n + 1, .row, _, s, _ => (show False from s).elim
theorem RvL.dp {K : PySem.W.Frag} {pr : Addr} {F H : Hp} (l : Le F H) (n : Nat) : ∀ (ds : List D) (vs : List V), (∀ x ∈ ds, Sh n x) → RvL pr F ds vs → DpAll K H vs (toPys ds)
  | [], _, _, r => by rw [show _ = [] from r]; unfold toPys; exact .nil
  | d :: ds, _, s, r => by
    obtain ⟨v, t, e, r1, r2⟩ := r
    rw [e]; unfold toPys
    exact .cons (Rv.dp l n d v (s d List.mem_cons_self) r1) (RvL.dp l n ds t (fun x hx => s x (List.mem_cons_of_mem _ hx)) r2)
end
mutual
theorem sh_lay : ∀ (n : Nat) (d : D), Sh n d → (toPy d).canLay0 = true ∧ (toPy d).depth ≤ n
  | n, .non, _ => by unfold toPy; exact ⟨rfl, Nat.zero_le _⟩
  | n, .bl b, _ => by unfold toPy; exact ⟨rfl, Nat.zero_le _⟩
  | n, .int b, _ => by unfold toPy; exact ⟨rfl, Nat.zero_le _⟩
  | n, .str b, s => by
    unfold toPy
    refine ⟨?_, Nat.zero_le _⟩
    have s' : PyData.strOk b = true := by cases n <;> exact s
    rw [PyData.canLay0]; exact s'
  | n + 1, .tup ds, s => by
    unfold toPy
    obtain ⟨h1, h2⟩ := shs_lay n ds s
    exact ⟨by rw [PyData.canLay0]; exact h1, by rw [PyData.depth]; omega⟩
  | n + 1, .lst ds, s => by
    unfold toPy
    obtain ⟨h1, h2⟩ := shs_lay n ds s
    exact ⟨by rw [PyData.canLay0]; exact h1, by rw [PyData.depth]; omega⟩
  | 0, .tup _, s => (show False from s).elim
  | 0, .lst _, s => (show False from s).elim
  | 0, .dI _, s => (show False from s).elim
  | 0, .dT _, s => (show False from s).elim
  | 0, .cel _, s => (show False from s).elim
  | 0, .row, s => (show False from s).elim
  | n + 1, .dI _, s => (show False from s).elim
  | n + 1, .dT _, s => (show False from s).elim
  | n + 1, .cel _, s => (show False from s).elim
  | n + 1, .row, s => (show False from s).elim
theorem shs_lay (n : Nat) : ∀ (ds : List D), (∀ x ∈ ds, Sh n x) → PyData.canLayAll0 (toPys ds) = true ∧ PyData.depthAll (toPys ds) ≤ n
  | [], _ => by unfold toPys; exact ⟨rfl, Nat.zero_le _⟩
  | d :: ds, s => by
    unfold toPys
    obtain ⟨h1, h2⟩ := sh_lay n d (s d List.mem_cons_self)
    obtain ⟨h3, h4⟩ := shs_lay n ds fun x hx => s x (List.mem_cons_of_mem _ hx)
    exact ⟨by rw [PyData.canLayAll0, h1, h3]; rfl, by rw [PyData.depthAll]; omega⟩
end
theorem sh_shaped {n : Nat} {d : D} (h : Sh n d) (hn : n ≤ 64) : SeqAt.shaped (toPy d) = true := by
  obtain ⟨h1, h2⟩ := sh_lay n d h
  unfold SeqAt.shaped
  rw [h1, decide_eq_true (Nat.le_trans h2 hn)]
  rfl
theorem Pk.dp {n : Nat} {d : D} {v : V} (p : Pk c.pr F H d v) (fz : Fz c.pr F H) (s : Sh n d) {K : PySem.W.Frag} : Dp K H v (toPy d) := by
  cases d with
  | lst ds =>
    cases n with
    | zero => exact (show False from s).elim
    | succ n =>
      obtain ⟨a, vs, e, h, r⟩ := p
      rw [e]; unfold toPy
      exact .lst (.of h) (RvL.dp fz.le n ds vs s r)
  | dI k => cases n <;> exact (show False from s).elim
  | dT k => cases n <;> exact (show False from s).elim
  | row => cases n <;> exact (show False from s).elim
  | cel k => cases n <;> exact (show False from s).elim
  | non => exact Rv.dp (pr := c.pr) fz.le n _ v s p
  | bl => exact Rv.dp (pr := c.pr) fz.le n _ v s p
  | int => exact Rv.dp (pr := c.pr) fz.le n _ v s p
  | str => exact Rv.dp (pr := c.pr) fz.le n _ v s p
  | tup => exact Rv.dp (pr := c.pr) fz.le n _ v s p
theorem o_eq (hu : X.A.units + 64 < cLine) : DOp X c (compareOp .Eq) eqW := OpR.imp (op_eqD hu) fun x y H Q q => by
  obtain ⟨F, d, e, R, fz, np, p1, p2, q, k⟩ := q
  exact ⟨toPy d, toPy e, p1.dp fz q.1.1, p2.dp fz q.1.2, sh_shaped q.1.1 (by decide), sh_shaped q.1.2 (by decide), k _ _ _ _ q.2 (.refl _) (.refl _ _) fz rfl⟩
theorem o_ne (hu : X.A.units + 64 < cLine) : DOp X c (compareOp .NotEq) neW := OpR.imp (op_neD hu) fun x y H Q q => by
  obtain ⟨F, d, e, R, fz, np, p1, p2, q, k⟩ := q
  exact ⟨toPy d, toPy e, p1.dp fz q.1.1, p2.dp fz q.1.2, sh_shaped q.1.1 (by decide), sh_shaped q.1.2 (by decide), k _ _ _ _ q.2 (.refl _) (.refl _ _) fz rfl⟩
theorem non_iff {d : D} {v : V} (p : Pk c.pr F H d v) : decide (v = .non) = isNon d := by
  cases d <;> first
    | (rw [show v = _ from p]; rfl)
    | (obtain ⟨a, vs, e, _⟩ := p; rw [e]; rfl)
    | (obtain ⟨a, e, _⟩ := p; rw [e]; rfl)
theorem o_is : DOp X c (compareOp .Is) isW := by
  intro pins s σ H x y v u Q I rx ry q
  obtain ⟨F, d, e, R, fz, np, p1, p2, q, k⟩ := q
  cases e with
  | non =>
    refine op_isN pins s σ H x y v u Q I rx ry ⟨p2, ?_⟩
    rw [non_iff p1]
    exact k (.bl (isNon d)) _ _ _ (by cases d <;> exact q) (.refl _) (.refl _ _) fz rfl
  | bl b =>
    cases d with
    | bl a => exact op_isBl pins s σ H x y v u Q I rx ry ⟨a, b, p1, p2, k _ _ _ _ q (.refl _) (.refl _ _) fz rfl⟩
    | _ => exact q.elim
  | _ => cases d <;> exact q.elim
theorem o_isn : DOp X c (compareOp .IsNot) isnW := by
  intro pins s σ H x y v u Q I rx ry q
  obtain ⟨F, d, e, R, fz, np, p1, p2, q, k⟩ := q
  cases e with
  | non =>
    refine op_notN pins s σ H x y v u Q I rx ry ⟨p2, ?_⟩
    rw [non_iff p1]
    exact k (.bl (!isNon d)) _ _ _ (by cases d <;> exact q) (.refl _) (.refl _ _) fz rfl
  | bl b =>
    cases d with
    | bl a => exact op_notBl pins s σ H x y v u Q I rx ry ⟨a, b, p1, p2, k _ _ _ _ q (.refl _) (.refl _ _) fz rfl⟩
    | _ => exact q.elim
  | _ => cases d <;> exact q.elim
theorem o_neg : UnR X (unaryOp .USub) (L1v c negW) := by
  intro pins s σ H x v Q I rx q
  obtain ⟨F, d, R, fz, np, p1, q, k⟩ := q
  cases d <;> first
    | exact un_neg pins s σ H x v Q I rx ⟨_, p1, k _ _ _ _ q (.refl _) (.refl _ _) fz rfl⟩
    | exact q.elim
end
/-! ### subscripts -/
theorem Pk.at {pr : Addr} {F : Hp} {ds : List D} {vs : List V} {i : Int} {k : D → Prop} (r : RvL pr F ds vs) (h : okO (atD ds i) k) : ∃ d v, atI vs i = some v ∧ Rv pr F d v ∧ k d := by
  unfold atD atI at h
  unfold atI
  rw [r.length]
  cases e : ixN ds.length i with
  | none => rw [e] at h; exact h.elim
  | some j =>
    rw [e] at h
    cases e2 : ds[j]? with
    | none =>
      have h' : okO (ds[j]?) k := h
      rw [e2] at h'; exact h'.elim
    | some d =>
      have h' : okO (ds[j]?) k := h
      rw [e2] at h'
      obtain ⟨v, h1, h2⟩ := r.get e2
      exact ⟨d, v, h1, h2, h'⟩
section
variable {X : Cx} {c : Cd} {a b e : Expr} {es : List Expr} {pos : Pos} {ta tb : WSr}
theorem de_ix (ha : DS X c a ta) (hb : DS X c b tb) (hs : PlainIx b := by exact fun _ _ => rfl) : DE X c (.Subscript a b pos) (wOp ixS ta tb) := (pe_ix ix_seq ha hb hs).imp fun σ H Q h => by
  obtain ⟨F, S, R, rp, h, k⟩ := h
  refine ⟨F, S, _, rp, h, fun x S1 v F1 H1 q n1 r1 rx => ⟨F1, S1, _, r1, q, fun y S2 u F2 H2 q n2 r2 ry => ?_⟩⟩
  obtain ⟨d, pd, q⟩ := okV_pk r2 q (rx.mono n2.le)
  obtain ⟨e, pe, q⟩ := okV_pk r2 q ry
  cases e with
  | int i =>
    have pe' : u = .int i := pe
    subst pe'
    cases d with
    | lst ds =>
      obtain ⟨p, vs, rfl, h1, rl, _⟩ := pd.sql (K := X.K)
      obtain ⟨d', v', e1, e2, q⟩ := Pk.at rl q
      exact .inl ⟨p, vs, i, v', rfl, rfl, h1, e1, k d' S2 v' F2 H2 q (n1.trans n2) r2 e2⟩
    | tup ds =>
      obtain ⟨p, vs, rfl, h1, rl, _⟩ := pd.sqt (K := X.K) r2.fz
      obtain ⟨d', v', e1, e2, q⟩ := Pk.at rl q
      exact .inr (.inl ⟨p, vs, i, v', rfl, rfl, h1, e1, k d' S2 v' F2 H2 q (n1.trans n2) r2 e2⟩)
    | _ => exact (show False from q).elim
  | _ => cases d <;> exact (show False from q).elim
/-! ### displays, fresh lists -/
theorem de_tup {t : WA} {x1} (h : DAs X c es t) : DE X c (.Tuple es x1 pos) (wTup t) := (pe_tup h).imp fun σ H Q h => by
  obtain ⟨F, S, R, rp, h, k⟩ := h
  refine ⟨F, S, _, rp, h, fun ds S1 vs F1 H1 q n1 r1 rx => ⟨by rw [rx.length]; exact line_le q.1, fun p hp => ?_⟩⟩
  obtain ⟨f, g, l⟩ := r1.fz.new (o := .tup vs) hp tup_nt (r1.nepr hp)
  exact k _ S1 _ _ _ q.2 (n1.trans (.grow l g)) (r1.grow l g f) ⟨p, vs, rfl, upd_same, RvL.mono g.le _ _ rx⟩
theorem own_ne {S : Sl} {σ : Sg} {F H : Hp} {p : Addr} (r : Rep c F S σ H) (hp : H p = none) : ¬ Owned S σ p := fun ⟨i, ⟨h, e⟩⟩ => by
  have q := r.slot i
  rcases h with ⟨x, h⟩ | ⟨x, h⟩ | ⟨x, h⟩ <;> (rw [h] at q; obtain ⟨p', vs, e1, h1, _⟩ := q; rw [e] at e1; cases e1; rw [h1] at hp; cases hp)
theorem h0_none {S : Sl} {σ : Sg} {F H : Hp} {p : Addr} (r : Rep c F S σ H) (hp : H p = none) : Nn c.H0 p := Classical.byContradiction fun z => r.keep.dom p z (.none hp)
theorem f_none {S : Sl} {σ : Sg} {F H : Hp} {p : Addr} (r : Rep c F S σ H) (hp : H p = none) : F p = none := by
  cases e : F p with
  | none => rfl
  | some o => rw [r.fz.le _ _ e] at hp; cases hp
theorem upd_le {H : Hp} {p : Addr} {o : HO} (hp : H p = none) : Le H (upd H p o) := fun b u e => by rw [upd_ne (ne_of_none e hp)]; exact e
/-- a new list that is not shared yet -/
theorem Rep.fresh {S : Sl} {σ : Sg} {F H : Hp} {p : Addr} {o : HO} (r : Rep c F S σ H) (hp : H p = none) : Nx c.pr S σ F H S F (upd H p o) ∧ Rep c F S σ (upd H p o) := by
  have l := upd_le (o := o) hp
  exact ⟨.grow l (.refl _ _), r.grow l (.refl _ _) ⟨fun b u e => l b u (r.fz.le _ _ e), r.fz.npr, r.fz.ntb⟩⟩
theorem newL {S S0 : Sl} {σ : Sg} {F F0 H H0 : Hp} {p : Addr} {ds : List D} {vs : List V} (r : Rep c F S σ H) (n : Nx c.pr S0 σ F0 H0 S F H) (hp : H p = none) (rl : RvL c.pr F ds vs) : NewL c S σ F H0 (upd H p (.lst vs)) ds p := by
  exact ⟨vs, upd_same, rl, f_none r hp, Classical.byContradiction fun z => n.dom p z (.none hp), h0_none r hp, r.nepr hp, own_ne r hp⟩
theorem dl_lst {t : WA} (h : DAs X c es t) : DFr X c (.List es pos) (wLst t) := (pe_lst h).imp fun σ H Q h => by
  obtain ⟨F, S, R, rp, h, k⟩ := h
  refine ⟨F, S, _, rp, h, fun ds S1 vs F1 H1 q n1 r1 rx => ⟨by rw [rx.length]; exact line_le q.1, fun p hp => ?_⟩⟩
  obtain ⟨nf, rf⟩ := r1.fresh (o := .lst vs) hp
  exact k _ S1 _ _ _ q.2 (n1.trans nf) rf (newL r1 n1 hp rx)
/-- a list of ours that is not shared yet is shared from now on -/
theorem Rep.shareF {S S0 : Sl} {σ : Sg} {F F0 H H0 : Hp} {p : Addr} {ds : List D} (r : Rep c F S σ H) (n : Nx c.pr S0 σ F0 H0 S F H) (nl : NewL c S σ F H0 H ds p) : ∃ F', Nx c.pr S0 σ F0 H0 S F' H ∧ Rep c F' S σ H ∧ Rv c.pr F' (.lst ds) (.ref p) := by
  obtain ⟨vs, h1, rl, n2, n3, n4, n5, n6⟩ := nl
  have le : Le F (upd F p (.lst vs)) := fun b u e => by rw [upd_ne (ne_of_none e n2)]; exact e
  refine ⟨upd F p (.lst vs), ⟨n.le.trans le, n.kp, n.dom, fun a ha => ?_, n.own⟩, ⟨r.amb0, r.amb, r.keep, ⟨fun b u e => ?_, by rw [upd_ne (Ne.symm n5)]; exact r.fz.npr, fun b u e => ?_⟩, ⟨r.gr.le.trans le, fun b hb => ?_⟩, fun i => ?_, r.apart, r.len⟩, p, vs, rfl, upd_same, RvL.mono le _ _ rl⟩
  · by_cases hp : a = p
    · subst hp; exact .inr (.inl n3)
    · rw [upd_ne hp] at ha; exact n.new a ha
  · by_cases hp : b = p
    · subst hp; rw [upd_same] at e; cases e; exact h1
    · rw [upd_ne hp] at e; exact r.fz.le _ _ e
  · by_cases hp : b = p
    · subst hp; rw [upd_same] at e; cases e; exact lst_nt
    · rw [upd_ne hp] at e; exact r.fz.ntb _ _ e
  · by_cases hp : b = p
    · subst hp; exact .inr n4
    · rw [upd_ne hp] at hb; exact r.gr.new b hb
  · have q := r.slot i
    have ne : ∀ {p'}, ((∃ xs, getS S i = .own xs) ∨ (∃ k, getS S i = .ownI k) ∨ ∃ k, getS S i = .ownT k) → σ[i]? = some (some (.ref p')) → p' ≠ p := fun {p'} k1 k2 z => n6 ⟨i, k1, by rw [k2, z]⟩
    cases e : getS S i with
    | un => trivial
    | dat d' => rw [e] at q; obtain ⟨v, e1, q⟩ := q; exact ⟨v, e1, Rv.mono le _ _ q⟩
    | own ds =>
      rw [e] at q; obtain ⟨p', vs, e1, h1, q, m1, m2, m3⟩ := q
      exact ⟨p', vs, e1, h1, RvL.mono le _ _ q, by rw [upd_ne (ne (.inl ⟨_, e⟩) e1)]; exact m1, m2, m3⟩
    | ownI ds =>
      rw [e] at q; obtain ⟨p', vs, e1, h1, q, m1, m2, m3⟩ := q
      exact ⟨p', vs, e1, h1, RvI.mono le _ _ q, by rw [upd_ne (ne (.inr (.inl ⟨_, e⟩)) e1)]; exact m1, m2, m3⟩
    | ownT ds =>
      rw [e] at q; obtain ⟨p', vs, e1, h1, q, m1, m2, m3⟩ := q
      exact ⟨p', vs, e1, h1, RvT.mono le _ _ q, by rw [upd_ne (ne (.inr (.inr ⟨_, e⟩)) e1)]; exact m1, m2, m3⟩
/-- a fresh list, shared -/
theorem de_fr {t : WL} (h : DFr X c e t) : DE X c e (wFz t) := h.imp fun σ H Q h => by
  obtain ⟨F, S, R, rp, h, k⟩ := h
  refine ⟨F, S, _, rp, h, fun ds S1 p F1 H1 q n1 r1 nl => ?_⟩
  obtain ⟨F2, n2, r2, rv⟩ := r1.shareF n1 nl
  exact k _ S1 _ _ _ q n2 r2 rv
/-! ### new values of names -/
theorem dn_d {t : WE} (h : DE X c e t) : DN X c e (wNd t) := h.imp fun σ H Q h => by
  obtain ⟨F, S, R, rp, h, k⟩ := h
  exact ⟨F, S, _, rp, h, fun d S1 v F1 H1 q n1 r1 rv => k _ S1 v F1 H1 q n1 r1 ⟨⟨v, rfl, rv⟩, trivial⟩⟩
theorem dn_o {t : WL} (h : DFr X c e t) : DN X c e (wNo t) := h.imp fun σ H Q h => by
  obtain ⟨F, S, R, rp, h, k⟩ := h
  refine ⟨F, S, _, rp, h, fun ds S1 p F1 H1 q n1 r1 nl => ?_⟩
  obtain ⟨vs, h1, rl, n2, n3, n4, n5, n6⟩ := nl
  exact k _ S1 _ F1 H1 q n1 r1 ⟨⟨p, vs, rfl, h1, rl, n2, n4, n5⟩, fun p' e => by cases e; exact ⟨n3, n6⟩⟩
end
end DL

set_option Elab.async false
set_option linter.all false
set_option maxRecDepth 100000
set_option maxHeartbeats 4000000
/-! Tests, calls, lists, slices, built-ins. -/
namespace DL
open PySem PySem.Spec PyProof.Rows L2
/-- what leaves a body as an error -/
def liftX (c : Cd) (EX : Str → Prop) : XK := fun cls d H' => ∃ nm dd, cls = .ref c.CB ∧ d = some dd ∧ H' dd = some (.xd [(("name" : Str), .str nm)]) ∧ Keep c.pr c.H0 H' ∧ Amb c.K c.T c.pr c.ps c.xs H' ∧ EX nm
structure Ctx (X : Cx) (c : Cd) (EX : Str → Prop) (k : Nat) : Prop where
  hK : c.K = X.K
  calm : X.calm = true
  nd : X.N.Nodup
  room : Room k X.A
  tk : Takes X fun cls d _ H => liftX c EX cls d H
theorem Ctx.px {X : Cx} {c : Cd} {EX : Str → Prop} {k : Nat} (B : Ctx X c EX k) : Passes (L2.CX X.prog X.w) X (liftX c EX) := passes_call B.tk fun _ _ _ _ h => h
theorem tk_none {X : Cx} {c : Cd} : Takes X fun cls d _ H => liftX c (fun _ => False) cls d H := Takes.imp L2.takes0 fun cls d _ H ⟨_, _, _, _, _, _, _, z⟩ => z
theorem Ctx.hu {X : Cx} {c : Cd} {EX : Str → Prop} {k : Nat} (B : Ctx X c EX k) : X.A.units + 64 < cLine := B.room.units
theorem Ctx.blk {X : Cx} {c : Cd} {EX : Str → Prop} {k : Nat} (B : Ctx X c EX k) (s : Shared) (H : Hp) (scope : Scope) (cenv : Env) (fp : List Addr) : Ctx (X.blk s H scope cenv fp) c (fun _ => False) k := ⟨B.hK, B.calm, B.nd, B.room, tk_none⟩
theorem isE {vs : List V} {xs : List D} (h : vs.length = xs.length) : (!vs.isEmpty) = !xs.isEmpty := by cases vs <;> cases xs <;> simp_all
theorem ifT {A B : Prop} (h : if true = true then A else B) : A := by simpa using h
theorem ifF {A B : Prop} (h : if false = true then A else B) : B := by simpa using h
section
variable {X : Cx} {c : Cd} {EX : Str → Prop} {k : Nat} {a b e : Expr} {es rest : List Expr} {pos : Pos}
/-! ### tests -/
theorem tru_of {F H : Hp} {d : D} {v : V} {R : Bool → Prop} (fz : Fz c.pr F H) (p : Pk c.pr F H d v) (h : truW d R) : ∃ b, TruV X.K v H b ∧ R b := by
  cases d with
  | bl x => exact ⟨x, by rw [show v = _ from p]; exact rfl, h⟩
  | int x => exact ⟨_, by rw [show v = _ from p]; exact rfl, h⟩
  | non => exact ⟨_, by rw [show v = _ from p]; exact rfl, h⟩
  | lst xs =>
    obtain ⟨q, vs, rfl, h1, rl, _⟩ := p.sql (K := X.K)
    have e : (!vs.isEmpty) = !xs.isEmpty := isE rl.length
    exact ⟨!vs.isEmpty, .inl ⟨vs, h1, rfl⟩, by rw [e]; exact h⟩
  | tup xs =>
    obtain ⟨q, vs, rfl, h1, rl, _⟩ := p.sqt (K := X.K) fz
    have e : (!vs.isEmpty) = !xs.isEmpty := isE rl.length
    exact ⟨!vs.isEmpty, .inr (.inl ⟨vs, h1, rfl⟩), by rw [e]; exact h⟩
  | _ => exact h.elim
theorem dt_tru {t : WSr} (h : DS X c e t) (he : ∀ whole, isTrue e X.env whole = (do let v ← whole; standAt e.pos; holding [v] (truthy v)) := by intro _; rfl) : DT X c e (tTru t) := (pt_truth h he).imp fun σ H Q h => by
  obtain ⟨F, S, R, rp, h, k⟩ := h
  refine ⟨F, S, _, rp, h, fun x S1 v F1 H1 q n1 r1 rx => ?_⟩
  obtain ⟨d, pd, q⟩ := okV_pk r1 q rx
  obtain ⟨b, t, q⟩ := tru_of (X := X) r1.fz pd q
  exact ⟨b, t, k _ _ _ _ q n1 r1⟩
theorem bl_of {pr : Addr} {F : Hp} {d : D} {v : V} {R : Bool → Prop} (p : Rv pr F d v) (h : match d with | .bl b => R b | _ => False) : ∃ b, d = .bl b ∧ v = .bl b ∧ R b := by
  cases d with
  | bl x => exact ⟨x, rfl, p, h⟩
  | _ => exact h.elim
theorem dt_cmp {op : CmpOp} {r : D → D → (D → Prop) → Prop} {ta tb : WSr} (ho : DOp X c (compareOp op) r) (ha : DS X c a ta) (hb : DS X c b tb) (hm : behindInMarks op b = false := by first | exact nomark _ | rfl) : DT X c (.Compare a [op] [b] pos) (tBl (wOp r ta tb)) := (pt_cmpR ho ha hb hm).imp fun σ H Q h => by
  obtain ⟨F, S, R, rp, h, k⟩ := h
  refine op_lift (r := r) ⟨F, S, _, rp, h, fun d S1 v F1 H1 q n1 r1 rv => ?_⟩
  obtain ⟨b, _, e, q⟩ := bl_of (R := fun b => R b S1) rv (by cases d <;> exact q)
  exact ⟨b, e, k _ _ _ _ q n1 r1⟩
theorem chain_lift {r r' : D → D → (D → Prop) → Prop} {ta tb tc : WE} {σ : Sg} {H : Hp} {Q : VK} (h : LE c (wChain r r' ta tb tc) σ H Q) : tChain (L2v c r) (L2v c r') (LE c ta) (LE c tb) (LE c tc) σ H Q := by
  obtain ⟨F, S, R, rp, h, k⟩ := h
  refine ⟨F, S, _, rp, h, fun x S1 v F1 H1 q n1 r1 rx => ⟨F1, S1, _, r1, q, fun y S2 u F2 H2 q n2 r2 ry => ?_⟩⟩
  refine ⟨F2, x, y, _, r2.fz, fun a h => r2.nepr h, (Rv.mono n2.le _ _ rx).pk r2.fz.le, ry.pk r2.fz.le, q, fun z w F3 H3 q l g f rv => ?_⟩
  have r3 := r2.grow l g f
  have n3 := (n1.trans n2).trans (.grow (pr := c.pr) (S := S2) (σ := σ) l g)
  cases z with
  | bl b =>
    have ew : w = .bl b := rv
    refine ⟨b, ew, ?_⟩
    have q : (if b = true then tc S2 (fun w S3 => r' y w fun z' => R z' S3) else R (.bl false) S2) := q
    cases b with
    | false => exact k (.bl false) S2 _ F3 H3 (ifF q) n3 r3 rfl
    | true =>
      replace q := ifT q
      refine iteT ⟨F3, S2, _, r3, q, fun d3 S3 w3 F4 H4 q n4 r4 rv4 => ?_⟩
      exact ⟨F4, y, d3, _, r4.fz, fun a h => r4.nepr h, (Rv.mono (g.le.trans n4.le) _ _ ry).pk r4.fz.le, rv4.pk r4.fz.le, q, fun z w F' H' q l g f rv => k z S3 w F' H' q ((n3.trans n4).trans (.grow l g)) (r4.grow l g f) rv⟩
  | _ => exact q.elim
theorem de_chain {op op' : CmpOp} {d : Expr} {r r' : D → D → (D → Prop) → Prop} {ta tb tc : WE} (ho : DOp X c (compareOp op) r) (ho' : DOp X c (compareOp op') r') (ha : DE X c a ta) (hb : DE X c b tb) (hc : DE X c d tc)
    (hm : lastMarks [op, op'] [b, d] = false := by with_unfolding_all rfl) : DE X c (.Compare a [op, op'] [b, d] pos) (wChain r r' ta tb tc) := (pe_chain ho ho' ha hb hc hm).imp fun _ _ _ => chain_lift
theorem dt_chain {op op' : CmpOp} {d : Expr} {r r' : D → D → (D → Prop) → Prop} {ta tb tc : WE} (ho : DOp X c (compareOp op) r) (ho' : DOp X c (compareOp op') r') (ha : DE X c a ta) (hb : DE X c b tb) (hc : DE X c d tc)
    (hm : lastMarks [op, op'] [b, d] = false := by with_unfolding_all rfl) : DT X c (.Compare a [op, op'] [b, d] pos) (tBl (wChain r r' ta tb tc)) := (pt_chain ho ho' ha hb hc hm).imp fun σ H Q h => by
  obtain ⟨F, S, R, rp, h, k⟩ := h
  refine chain_lift ⟨F, S, _, rp, h, fun d S1 v F1 H1 q n1 r1 rv => ?_⟩
  obtain ⟨b, _, e, q⟩ := bl_of (R := fun b => R b S1) rv (by cases d <;> exact q)
  exact ⟨b, e, k _ _ _ _ q n1 r1⟩
theorem dt_not {t : WT} (h : DT X c e t) : DT X c (.UnaryOp .Not e pos) (tNot t) := (pt_not h).imp fun σ H Q h => by
  obtain ⟨F, S, R, rp, h, k⟩ := h
  exact ⟨F, S, _, rp, h, fun b S1 F1 H1 q n1 r1 => k _ _ _ _ q n1 r1⟩
theorem dw_and1 {t : WT} (h : DT X c e t) : DW X c (.BoolOp .And [e] pos) t := pw_and1 h
theorem dw_or1 {t : WT} (h : DT X c e t) : DW X c (.BoolOp .Or [e] pos) t := pw_or1 h
theorem dw_and {t u : WT} (h : DT X c a t) (hr : DW X c (.BoolOp .And (b :: rest) pos) u) : DW X c (.BoolOp .And (a :: b :: rest) pos) (tAnd t u) := (pw_and h hr).imp fun σ H Q h => by
  obtain ⟨F, S, R, rp, h, k⟩ := h
  refine ⟨F, S, _, rp, h, fun b S1 F1 H1 q n1 r1 => ?_⟩
  cases b with
  | true => exact iteT ⟨F1, S1, _, r1, ifT q, fun b S2 F2 H2 q n2 r2 => k _ _ _ _ q (n1.trans n2) r2⟩
  | false => exact iteF (k _ _ _ _ (ifF q) n1 r1)
theorem dw_or {t u : WT} (h : DT X c a t) (hr : DW X c (.BoolOp .Or (b :: rest) pos) u) : DW X c (.BoolOp .Or (a :: b :: rest) pos) (tOr t u) := (pw_or h hr).imp fun σ H Q h => by
  obtain ⟨F, S, R, rp, h, k⟩ := h
  refine ⟨F, S, _, rp, h, fun b S1 F1 H1 q n1 r1 => ?_⟩
  cases b with
  | true => exact iteT (k _ _ _ _ (ifT q) n1 r1)
  | false => exact iteF ⟨F1, S1, _, r1, ifF q, fun b S2 F2 H2 q n2 r2 => k _ _ _ _ q (n1.trans n2) r2⟩
theorem dt_w {t : WT} (h : DW X c e t) : DT X c e t := PW.pt h
/-! ### and, or, not as values -/
theorem de_one {op} {t : WE} (h : DE X c e t) : DE X c (.BoolOp op [e] pos) t := pe_one h
theorem de_and {t u : WE} (h : DE X c a t) (hr : DE X c (.BoolOp .And (b :: rest) pos) u) : DE X c (.BoolOp .And (a :: b :: rest) pos) (wAndV t u) := (pe_and h hr).imp fun σ H Q h => by
  obtain ⟨F, S, R, rp, h, k⟩ := h
  refine ⟨F, S, _, rp, h, fun d S1 v F1 H1 q n1 r1 rv => ?_⟩
  obtain ⟨b, ed, e, q⟩ := bl_of (R := fun c => if c = true then u S1 R else R (.bl false) S1) rv (by cases d <;> exact q)
  refine ⟨b, e, ?_⟩
  cases b with
  | true => exact iteT ⟨F1, S1, _, r1, ifT q, fun b S2 v F2 H2 q n2 r2 rv => k _ _ _ _ _ q (n1.trans n2) r2 rv⟩
  | false => exact iteF (k (.bl false) _ _ _ _ (ifF q) n1 r1 rfl)
theorem de_or {t u : WE} (h : DE X c a t) (hr : DE X c (.BoolOp .Or (b :: rest) pos) u) : DE X c (.BoolOp .Or (a :: b :: rest) pos) (wOrV t u) := (pe_or h hr).imp fun σ H Q h => by
  obtain ⟨F, S, R, rp, h, k⟩ := h
  refine ⟨F, S, _, rp, h, fun d S1 v F1 H1 q n1 r1 rv => ?_⟩
  obtain ⟨b, ed, e, q⟩ := bl_of (R := fun c => if c = true then R (.bl true) S1 else u S1 R) rv (by cases d <;> exact q)
  refine ⟨b, e, ?_⟩
  cases b with
  | true => exact iteT (k (.bl true) _ _ _ _ (ifT q) n1 r1 rfl)
  | false => exact iteF ⟨F1, S1, _, r1, ifF q, fun b S2 v F2 H2 q n2 r2 rv => k _ _ _ _ _ q (n1.trans n2) r2 rv⟩
theorem de_not {t : WE} (h : DE X c e t) : DE X c (.UnaryOp .Not e pos) (wNotV t) := (pe_not h).imp fun σ H Q h => by
  obtain ⟨F, S, R, rp, h, k⟩ := h
  refine ⟨F, S, _, rp, h, fun d S1 v F1 H1 q n1 r1 rv => ?_⟩
  obtain ⟨b, ed, e, q⟩ := bl_of (R := fun c => R (.bl (!c)) S1) rv (by cases d <;> exact q)
  exact ⟨b, e, k (.bl (!b)) _ _ _ _ q n1 r1 rfl⟩
theorem de_if {t : WT} {u w : WE} {d : Expr} (h : DT X c d t) (ha : DE X c a u) (hb : DE X c b w) : DE X c (.IfExp d a b pos) (wIf t u w) := (pe_ifExp h ha hb).imp fun σ H Q h => by
  obtain ⟨F, S, R, rp, h, k⟩ := h
  refine ⟨F, S, _, rp, h, fun b S1 F1 H1 q n1 r1 => ?_⟩
  cases b with
  | true => exact iteT ⟨F1, S1, _, r1, ifT q, fun b S2 v F2 H2 q n2 r2 rv => k _ _ _ _ _ q (n1.trans n2) r2 rv⟩
  | false => exact iteF ⟨F1, S1, _, r1, ifF q, fun b S2 v F2 H2 q n2 r2 rv => k _ _ _ _ _ q (n1.trans n2) r2 rv⟩
/-! ### calls of defs -/
/-- a def's promise at the data level, over the heap -/
def spD (K : PySem.W.Frag) (T : List (Addr × Str)) (CB : Addr) (s : DSp) : Sp := fun vs H Q E => ∃ pr ps xs F ds R0 E0, Amb K T pr ps xs H ∧ Fz pr F H ∧ RvL pr F ds vs ∧ s ds R0 E0 ∧
  (∀ d v F' H', R0 d → Keep pr H H' → Amb K T pr ps xs H' → Fz pr F' H' → Gr F H F' → Rv pr F' d v → Q v H') ∧
  (∀ nm dd H', E0 nm → Keep pr H H' → Amb K T pr ps xs H' → H' dd = some (.xd [(("name" : Str), .str nm)]) → E (.ref CB) (some dd) H')
/-- a def of the module that keeps the promise s, by at most k levels -/
structure Callee (P : Program) (w : World) (K : PySem.W.Frag) (mg : Str → Option Value) (base : Heap) (T : List (Addr × Str)) (CB : Addr) (x : Str) (k : Nat) (ps : List Str) (s : DSp) : Prop where
  ex : ∃ f fd, FnOk P w K mg base (L2.CX P w) k f fd ps (spD K T CB s) ∧ mg x = some (.ref f) ∧ PySem.W.keepIn K (.ref f) = true ∧ Binds K fd ps [] ∧ ∃ oc od osl, K.lookup f = some ⟨oc, od, .func fd, osl⟩
theorem Rep.kept {F F' H H' : Hp} {S : Sl} {σ : Sg} (r : Rep c F S σ H) (kp : Keep c.pr H H') (am : Amb c.K c.T c.pr c.ps c.xs H') (z : Fz c.pr F' H') (g : Gr F H F') : Nx c.pr S σ F H S F' H' ∧ Rep c F' S σ H' := by
  refine ⟨⟨g.le, fun b o h n t _ => kp.kp b o h n t, kp.dom, fun a h => (g.new a h).elim .inl fun z => .inr (.inl z), fun _ h => h⟩, ⟨r.amb0, am, r.keep.trans kp, z, gr_trans r.keep r.gr g, fun i => ?_, r.apart, r.len⟩⟩
  have q := r.slot i
  have nF : ∀ p o, H p = some o → nt o → F p = none → F' p = none := fun p o h t n => by
    cases e : F' p with
    | none => rfl
    | some u =>
      rcases g.new p (by rw [e]; simp) with z | z
      · exact absurd n z
      · exact absurd z (not_nn h t)
  cases e : getS S i with
  | un => trivial
  | dat d => rw [e] at q; obtain ⟨v, e1, q⟩ := q; exact ⟨v, e1, Rv.mono g.le d v q⟩
  | own ds => rw [e] at q; obtain ⟨p, vs, e1, h, q, n1, n2, n3⟩ := q; exact ⟨p, vs, e1, kp.kp _ _ h n3 lst_nt, RvL.mono g.le _ _ q, nF _ _ h lst_nt n1, n2, n3⟩
  | ownI ds => rw [e] at q; obtain ⟨p, vs, e1, h, q, n1, n2, n3⟩ := q; exact ⟨p, vs, e1, kp.kp _ _ h n3 dK_nt, RvI.mono g.le _ _ q, nF _ _ h dK_nt n1, n2, n3⟩
  | ownT ds => rw [e] at q; obtain ⟨p, vs, e1, h, q, n1, n2, n3⟩ := q; exact ⟨p, vs, e1, kp.kp _ _ h n3 dT_nt, RvT.mono g.le _ _ q, nF _ _ h dT_nt n1, n2, n3⟩
theorem call_lift {s : DSp} {t : WA} {σ : Sg} {H : Hp} {Q : VK} (hK : c.K = X.K) (h : LE c (wCall s EX t) σ H Q) : (LA c t) σ H fun vs H1 => spD X.K c.T c.CB s vs H1 Q (liftX c EX) := by
  obtain ⟨F, S, R, rp, h, k⟩ := h
  refine ⟨F, S, _, rp, h, fun ds S1 vs F1 H1 q n1 r1 rl => ?_⟩
  refine ⟨c.pr, c.ps, c.xs, F1, ds, _, _, hK ▸ r1.amb, r1.fz, rl, q, fun d v F' H' q kp am z g rv => ?_, fun nm dd H' q kp am e => ⟨nm, dd, rfl, rfl, e, r1.keep.trans kp, hK ▸ am, q⟩⟩
  obtain ⟨nx, r2⟩ := r1.kept kp (hK ▸ am) z g
  exact k d S1 v F' H' q (n1.trans nx) r2 rv
theorem de_call {x : Str} {p : Pos} {ps : List Str} {s : DSp} {t : WA} {j : Nat} (G : Callee X.prog X.w X.K X.mg X.base c.T c.CB x j ps s) (B : Ctx X c EX k) (hj : j ≤ k) (ha : DAs X c (e :: es) t) (hg : Gl X x := by rfl) (hdb : (x == ("__debug__" : Str)) = false := by decide)
    (he : starEach (e :: es) X.env = (false, eval e X.env) :: starEach es X.env := by rfl) (hpl : (backTo pos (starEach es X.env)).any (·.1) = false := by rfl) : DE X c (.Call (.Name x p) (e :: es) [] pos) (wCall s EX t) := by
  obtain ⟨f, fd, F, hm, hk, hb, _⟩ := G.ex
  refine (pe_call F (B.room.mono hj) hg hm hk hb .nil B.px ha hdb he hpl).imp fun σ H Q h => ?_
  have := call_lift B.hK h
  unfold tCall
  simpa only [List.append_nil] using this
end
end DL

set_option Elab.async false
set_option linter.all false
set_option maxRecDepth 100000
set_option maxHeartbeats 4000000
/-! Built-ins, isinstance, lists made anew, slices. -/
namespace DL
open PySem PySem.Spec PyProof.Rows L2
section
variable {X : Cx} {c : Cd} {EX : Str → Prop} {k : Nat} {a b e : Expr} {es rest : List Expr} {pos : Pos}
theorem pks1 {F H : Hp} {d : D} {vs : List V} (h : Pks c.pr F H [d] vs) : ∃ v, vs = [v] ∧ Pk c.pr F H d v := by
  obtain ⟨v, r, e, p, q⟩ := h
  exact ⟨v, by rw [e, show r = [] from q], p⟩
theorem pks2 {F H : Hp} {d d' : D} {vs : List V} (h : Pks c.pr F H [d, d'] vs) : ∃ v v', vs = [v, v'] ∧ Pk c.pr F H d v ∧ Pk c.pr F H d' v' := by
  obtain ⟨v, r, e, p, q⟩ := h
  obtain ⟨v', e', p'⟩ := pks1 q
  exact ⟨v, v', by rw [e, e'], p, p'⟩
theorem CallR.imp {f : Value} {r r' : List V → Hp → VK → Prop} (h : CallR X f r) (i : ∀ x H Q, r' x H Q → r x H Q) : CallR X f r' := fun pins s σ H xs us Q I rx q => h pins s σ H xs us Q I rx (i xs H Q q)
theorem b_len : CallR X (.builtin "len") (LNv c len1) := CallR.imp call_len fun xs H Q h => by
  obtain ⟨F, ds, R, fz, np, p, q, k⟩ := h
  match ds, q with
  | [.lst ys], q =>
    obtain ⟨v, rfl, p1⟩ := pks1 p
    obtain ⟨a, vs, rfl, h1, rl, _⟩ := p1.sql (K := X.K)
    exact ⟨_, ys.length, rfl, .inl ⟨vs, h1, rl.length.symm⟩, k _ _ _ _ q (.refl _) (.refl _ _) fz rfl⟩
  | [.tup ys], q =>
    obtain ⟨v, rfl, p1⟩ := pks1 p
    obtain ⟨a, vs, rfl, h1, rl, _⟩ := p1.sqt (K := X.K) fz
    exact ⟨_, ys.length, rfl, .inr ⟨vs, h1, rl.length.symm⟩, k _ _ _ _ q (.refl _) (.refl _ _) fz rfl⟩
  | [.non], q | [.bl _], q | [.int _], q | [.str _], q | [.dI _], q | [.dT _], q | [.row], q => exact q.elim
  | [], q => exact q.elim
  | _ :: _ :: _, q => exact q.elim
theorem b_max2 (hc : X.calm = true) : CallR X (.builtin "max") (LNv c max2) := CallR.imp (call_max2 hc) fun xs H Q h => by
  obtain ⟨F, ds, R, fz, np, p, q, k⟩ := h
  match ds, q with
  | [.int i, .int j], q =>
    obtain ⟨v, w, rfl, p1, p2⟩ := pks2 p
    have e1 : v = .int i := p1
    have e2 : w = .int j := p2
    subst e1 e2
    have e : (if j > i then j else i) = max i j := by omega
    exact ⟨i, j, rfl, by rw [e]; exact k _ _ _ _ q (.refl _) (.refl _ _) fz rfl⟩
theorem b_min2 (hc : X.calm = true) : CallR X (.builtin "min") (LNv c min2) := CallR.imp (call_min2 hc) fun xs H Q h => by
  obtain ⟨F, ds, R, fz, np, p, q, k⟩ := h
  match ds, q with
  | [.int i, .int j], q =>
    obtain ⟨v, w, rfl, p1, p2⟩ := pks2 p
    have e1 : v = .int i := p1
    have e2 : w = .int j := p2
    subst e1 e2
    have e : (if j < i then j else i) = min i j := by omega
    exact ⟨i, j, rfl, by rw [e]; exact k _ _ _ _ q (.refl _) (.refl _ _) fz rfl⟩
theorem b_abs : CallR X (.builtin "abs") (LNv c abs1) := CallR.imp call_abs fun xs H Q h => by
  obtain ⟨F, ds, R, fz, np, p, q, k⟩ := h
  match ds, q with
  | [.int i], q =>
    obtain ⟨v, rfl, p1⟩ := pks1 p
    have e1 : v = .int i := p1
    subst e1
    have e : (if i < 0 then -i else i) = (i.natAbs : Int) := by omega
    exact ⟨i, rfl, by rw [e]; exact k _ _ _ _ q (.refl _) (.refl _ _) fz rfl⟩
theorem lst_ints {F H : Hp} {ns : List Int} {v : V} (p : Pk c.pr F H (.lst (ns.map D.int)) v) {K : PySem.W.Frag} : ∃ a, v = .ref a ∧ SqL K H a (ns.map V.int) := by
  obtain ⟨a, vs, rfl, h1, rl, _⟩ := p.sql (K := K)
  rw [rl.ints] at h1
  exact ⟨a, rfl, h1⟩
theorem lst_bls {F H : Hp} {ns : List Bool} {v : V} (p : Pk c.pr F H (.lst (ns.map D.bl)) v) {K : PySem.W.Frag} : ∃ a, v = .ref a ∧ SqL K H a (ns.map V.bl) := by
  obtain ⟨a, vs, rfl, h1, rl, _⟩ := p.sql (K := K)
  rw [rl.bls] at h1
  exact ⟨a, rfl, h1⟩
theorem b_max1 (hc : X.calm = true) : CallR X (.builtin "max") (LNv c max1) := CallR.imp (cr_max hc) fun xs H Q h => by
  obtain ⟨F, ds, R, fz, np, p, q, k⟩ := h
  match ds, q with
  | [.lst ys], q =>
    obtain ⟨v, rfl, p1⟩ := pks1 p
    obtain ⟨ns, rfl, hn, q⟩ := q
    obtain ⟨a, rfl, h1⟩ := lst_ints p1
    exact ⟨a, ns, rfl, h1, List.length_pos_iff.mpr hn, fun m h1 h2 => k _ _ _ _ (q m h1 h2) (.refl _) (.refl _ _) fz rfl⟩
theorem b_min1 (hc : X.calm = true) : CallR X (.builtin "min") (LNv c min1) := CallR.imp (cr_min hc) fun xs H Q h => by
  obtain ⟨F, ds, R, fz, np, p, q, k⟩ := h
  match ds, q with
  | [.lst ys], q =>
    obtain ⟨v, rfl, p1⟩ := pks1 p
    obtain ⟨ns, rfl, hn, q⟩ := q
    obtain ⟨a, rfl, h1⟩ := lst_ints p1
    exact ⟨a, ns, rfl, h1, List.length_pos_iff.mpr hn, fun m h1 h2 => k _ _ _ _ (q m h1 h2) (.refl _) (.refl _ _) fz rfl⟩
theorem b_sum1 (hc : X.calm = true) : CallR X (.builtin "sum") (LNv c sum1) := CallR.imp (cr_sum hc) fun xs H Q h => by
  obtain ⟨F, ds, R, fz, np, p, q, k⟩ := h
  match ds, q with
  | [.lst ys], q =>
    obtain ⟨v, rfl, p1⟩ := pks1 p
    obtain ⟨ns, rfl, q⟩ := q
    obtain ⟨a, rfl, h1⟩ := lst_ints p1
    exact ⟨a, ns, rfl, h1, k _ _ _ _ q (.refl _) (.refl _ _) fz rfl⟩
theorem b_all1 (hc : X.calm = true) : CallR X (.builtin "all") (LNv c all1) := CallR.imp (cr_all hc) fun xs H Q h => by
  obtain ⟨F, ds, R, fz, np, p, q, k⟩ := h
  match ds, q with
  | [.lst ys], q =>
    obtain ⟨v, rfl, p1⟩ := pks1 p
    obtain ⟨ns, rfl, q⟩ := q
    obtain ⟨a, rfl, h1⟩ := lst_bls p1
    exact ⟨a, ns, rfl, h1, k _ _ _ _ q (.refl _) (.refl _ _) fz rfl⟩
theorem b_any1 (hc : X.calm = true) : CallR X (.builtin "any") (LNv c any1) := CallR.imp (cr_any hc) fun xs H Q h => by
  obtain ⟨F, ds, R, fz, np, p, q, k⟩ := h
  match ds, q with
  | [.lst ys], q =>
    obtain ⟨v, rfl, p1⟩ := pks1 p
    obtain ⟨ns, rfl, q⟩ := q
    obtain ⟨a, rfl, h1⟩ := lst_bls p1
    exact ⟨a, ns, rfl, h1, k _ _ _ _ q (.refl _) (.refl _ _) fz rfl⟩
theorem b_int1 : CallR X (.type "int") (LNv c int1) := CallR.imp call_int1 fun xs H Q h => by
  obtain ⟨F, ds, R, fz, np, p, q, k⟩ := h
  match ds, q with
  | [.int i], q =>
    obtain ⟨v, rfl, p1⟩ := pks1 p
    have e1 : v = .int i := p1
    subst e1
    exact .inl ⟨i, rfl, k _ _ _ _ q (.refl _) (.refl _ _) fz rfl⟩
theorem b_tuple1 : CallR X (.type "tuple") (LNv c tuple1) := CallR.imp call_tuple_of fun xs H Q h => by
  obtain ⟨F, ds, R, fz, np, p, q, k⟩ := h
  match ds, q with
  | [.lst ys], q =>
    obtain ⟨v, rfl, p1⟩ := pks1 p
    obtain ⟨a, vs, rfl, h1, rl, _⟩ := p1.sql (K := X.K)
    refine ⟨a, vs, rfl, .inl ⟨h1, fun l hl => ?_⟩⟩
    exact laid fz np k hl tup_nt q ⟨l, vs, rfl, upd_same, RvL.mono (leF fz hl) _ _ rl⟩
  | [.tup ys], q =>
    obtain ⟨v, rfl, p1⟩ := pks1 p
    obtain ⟨a, vs, rfl, h1, rl, h2⟩ := p1.sqt (K := X.K) fz
    exact ⟨a, vs, rfl, .inr ⟨h1, k _ _ _ _ q (.refl _) (.refl _ _) fz ⟨a, vs, rfl, h2, rl⟩⟩⟩
/-- answers that are new lists -/
def LNl (c : Cd) (r : List D → (List D → Prop) → Prop) : List V → Hp → VK → Prop := fun xs H Q => ∃ F ds R, Fz c.pr F H ∧ Pks c.pr F H ds xs ∧ r ds R ∧ ∀ zs vs p, R zs → H p = none → RvL c.pr F zs vs → Q (.ref p) (upd H p (.lst vs))
def L2l (c : Cd) (r : D → D → (List D → Prop) → Prop) : R2 := fun x y H Q => ∃ F d e R, Fz c.pr F H ∧ Pk c.pr F H d x ∧ Pk c.pr F H e y ∧ r d e R ∧ ∀ zs vs p, R zs → H p = none → RvL c.pr F zs vs → Q (.ref p) (upd H p (.lst vs))
theorem bl_lift {r : List D → (List D → Prop) → Prop} {ta : WSrs} {σ : Sg} {H : Hp} {Q : VK} (h : LL c (wBL r ta) σ H Q) : tCB (LNl c r) (LSs c ta) σ H Q := by
  obtain ⟨F, S, R, rp, h, k⟩ := h
  refine ⟨F, S, _, rp, h, fun x S1 v F1 H1 q n1 r1 rx => ?_⟩
  obtain ⟨d, pd, q⟩ := okVs_pk r1 q rx
  refine ⟨F1, d, _, r1.fz, pd, q, fun zs vs p q hp rl => ?_⟩
  obtain ⟨nf, rf⟩ := r1.fresh (o := .lst vs) hp
  exact k _ S1 _ _ _ q (n1.trans nf) rf (newL r1 n1 hp rl)
theorem dl_bTy {id : String} {x : Str} {p : Pos} {r : List D → (List D → Prop) → Prop} {ta : WSrs} (ho : CallR X (.type id) (LNl c r)) (hg : Gl X x) (hm : X.mg x = none) (hv : bootBuiltins x = some (.type id)) (ha : DSs X c (e :: es) ta) (hn : x ≠ "__name__" := by decide) (hdb : (x == ("__debug__" : Str)) = false := by decide)
    (he : starEach (e :: es) X.env = (false, eval e X.env) :: starEach es X.env := by rfl) (hpl : (backTo pos (starEach es X.env)).any (·.1) = false := by rfl) : DFr X c (.Call (.Name x p) (e :: es) [] pos) (wBL r ta) := (pe_callTy ho hg hm hv ha hn hdb he hpl).imp fun _ _ _ => bl_lift
theorem dl_b {id : String} {x : Str} {p : Pos} {r : List D → (List D → Prop) → Prop} {ta : WSrs} (ho : CallR X (.builtin id) (LNl c r)) (hg : Gl X x) (hm : X.mg x = none) (hv : bootBuiltins x = some (.builtin id)) (ha : DSs X c (e :: es) ta) (hn : x ≠ "__name__" := by decide) (hdb : (x == ("__debug__" : Str)) = false := by decide)
    (he : starEach (e :: es) X.env = (false, eval e X.env) :: starEach es X.env := by rfl) (hpl : (backTo pos (starEach es X.env)).any (·.1) = false := by rfl) : DFr X c (.Call (.Name x p) (e :: es) [] pos) (wBL r ta) := (pe_callB ho hg hm hv ha hn hdb he hpl).imp fun _ _ _ => bl_lift
theorem b_list1 : CallR X (.type "list") (LNl c list1) := CallR.imp call_list_of fun xs H Q h => by
  obtain ⟨F, ds, R, fz, p, q, k⟩ := h
  match ds, q with
  | [.lst ys], q =>
    obtain ⟨v, rfl, p1⟩ := pks1 p
    obtain ⟨a, vs, rfl, h1, rl, _⟩ := p1.sql (K := X.K)
    exact ⟨a, vs, rfl, .inl h1, fun l hl => k _ _ _ q hl rl⟩
  | [.tup ys], q =>
    obtain ⟨v, rfl, p1⟩ := pks1 p
    obtain ⟨a, vs, rfl, h1, rl, h2⟩ := p1.sqt (K := X.K) fz
    exact ⟨a, vs, rfl, .inr h1, fun l hl => k _ _ _ q hl rl⟩
theorem opl_lift {r : D → D → (List D → Prop) → Prop} {ta tb : WSr} {σ : Sg} {H : Hp} {Q : VK} (h : LL c (wOpL r ta tb) σ H Q) : tOp (L2l c r) (LSr c ta) (LSr c tb) σ H Q := by
  obtain ⟨F, S, R, rp, h, k⟩ := h
  refine ⟨F, S, _, rp, h, fun x S1 v F1 H1 q n1 r1 rx => ⟨F1, S1, _, r1, q, fun y S2 u F2 H2 q n2 r2 ry => ?_⟩⟩
  obtain ⟨d, pd, q⟩ := okV_pk r2 q (rx.mono n2.le)
  obtain ⟨e, pe, q⟩ := okV_pk r2 q ry
  refine ⟨F2, d, e, _, r2.fz, pd, pe, q, fun zs vs p q hp rl => ?_⟩
  obtain ⟨nf, rf⟩ := r2.fresh (o := .lst vs) hp
  exact k _ S2 _ _ _ q ((n1.trans n2).trans nf) rf (newL r2 (n1.trans n2) hp rl)
theorem dl_op {op : Operator} {r : D → D → (List D → Prop) → Prop} {ta tb : WSr} (ho : OpR X (binaryOp op) (L2l c r)) (ha : DS X c a ta) (hb : DS X c b tb) : DFr X c (.BinOp a op b pos) (wOpL r ta tb) := (pe_op ho ha hb).imp fun _ _ _ => opl_lift
theorem o_cat : OpR X (binaryOp .Add) (L2l c catW) := OpR.imp op_cat fun x y H Q h => by
  obtain ⟨F, d, e, R, fz, p1, p2, q, k⟩ := h
  match d, e, q with
  | .lst xs, .lst ys, q =>
    obtain ⟨a, vs, rfl, h1, rl, g1⟩ := p1.sql (K := X.K)
    obtain ⟨b, ws, rfl, h2, rm, g2⟩ := p2.sql (K := X.K)
    exact ⟨a, b, vs, ws, rfl, rfl, g1, g2, by rw [rl.length, rm.length]; exact line_le q.1, fun p hp => k _ _ _ q.2 hp (rl.append rm)⟩
theorem RvL.rep {pr : Addr} {F : Hp} {ds : List D} {vs : List V} (r : RvL pr F ds vs) : ∀ n : Nat, RvL pr F (List.replicate n ds).flatten (List.replicate n vs).flatten
  | 0 => rfl
  | n + 1 => by
    rw [List.replicate_succ, List.replicate_succ, List.flatten_cons, List.flatten_cons]
    exact r.append (RvL.rep r n)
theorem o_rep : OpR X (binaryOp .Mult) (L2l c repW) := OpR.imp op_rep fun x y H Q h => by
  obtain ⟨F, d, e, R, fz, p1, p2, q, k⟩ := h
  match d, e, q with
  | .lst xs, .int j, q =>
    obtain ⟨a, vs, rfl, h1, rl, g1⟩ := p1.sql (K := X.K)
    have e2 : y = .int j := p2
    subst e2
    obtain ⟨q1, q2, q3, q⟩ := q
    have hz : vs.length * j.toNat ≤ 1000 * 1000 := Nat.mul_le_mul (by rw [rl.length]; exact q1) (by omega)
    exact ⟨a, j, vs, rfl, rfl, g1, by omega, by omega, line_le hz, fun p hp => k _ _ _ q hp (rl.rep _)⟩
theorem o_mul : DOp X c (binaryOp .Mult) mulW := by
  intro pins s σ H x y v u Q I rx ry q
  obtain ⟨F, d, e, R, fz, np, p1, p2, q, k⟩ := q
  match d, e, q with
  | .int i, .int j, q => exact op_mul pins s σ H x y v u Q I rx ry ⟨_, _, p1, p2, q.1, k _ _ _ _ q.2 (.refl _) (.refl _ _) fz rfl⟩
  | .tup xs, .int j, q =>
    obtain ⟨q1, q2, q3, q4, q⟩ := q
    obtain ⟨a, vs, rfl, h1, r1, f1⟩ := p1.sqt (K := X.K) fz
    have e2 : y = .int j := p2
    subst e2
    refine op_repT pins s σ H _ _ v u Q I rx ry ⟨a, j, vs, rfl, rfl, h1, fun e => q2 ?_, q3, q4, by rw [r1.length]; exact q1, fun p hp => ?_⟩
    · have := r1.length; rw [e] at this; exact List.eq_nil_of_length_eq_zero this.symm
    · have l := leF (o := .tup (List.replicate j.toNat vs).flatten) fz hp
      exact laid fz np k hp tup_nt q ⟨p, _, rfl, upd_same, (RvL.mono l _ _ r1).rep _⟩
/-! ### isinstance -/
def tyName : Ty → String
  | .int => "int"
  | .bool => "bool"
  | .tuple => "tuple"
  | .str => "str"
def tyD (d : D) : String := match d with
  | .non => "NoneType"
  | .bl _ => "bool"
  | .int _ => "int"
  | .str _ => "str"
  | .tup _ => "tuple"
  | _ => "list"
theorem tyOf_pk {F H : Hp} {d : D} {v : V} {K : PySem.W.Frag} (fz : Fz c.pr F H) (p : Pk c.pr F H d v) (h : isPl d) : TyX K H v (.type (tyD d)) := by
  cases d with
  | non => rw [show v = _ from p]; exact .base .non
  | bl b => rw [show v = _ from p]; exact .base (.bl b)
  | int b => rw [show v = _ from p]; exact .base (.int b)
  | str b => rw [show v = _ from p]; exact .base (.str b)
  | tup b => obtain ⟨a, vs, rfl, _, _, h2⟩ := p.sqt (K := K) fz; exact .base (.tup (fz.le _ _ h2))
  | lst b => obtain ⟨a, vs, rfl, _, _, h2⟩ := p.sql (K := K); exact .base (.lst h2)
  | _ => exact h.elim
theorem isi_kit (ty : Ty) : ∀ d : D, isPl d → kitB (tyD d) (tyName ty) = some (isiB d ty) := by
  intro d h
  cases d with
  | non => cases ty <;> decide +kernel
  | bl b => cases ty <;> first | (show kitB "bool" _ = some true; decide +kernel) | (show kitB "bool" _ = some false; decide +kernel)
  | int b => cases ty <;> first | (show kitB "int" _ = some true; decide +kernel) | (show kitB "int" _ = some false; decide +kernel)
  | str b => cases ty <;> first | (show kitB "str" _ = some true; decide +kernel) | (show kitB "str" _ = some false; decide +kernel)
  | tup b => cases ty <;> first | (show kitB "tuple" _ = some true; decide +kernel) | (show kitB "tuple" _ = some false; decide +kernel)
  | lst b => cases ty <;> first | (show kitB "list" _ = some true; decide +kernel) | (show kitB "list" _ = some false; decide +kernel)
  | _ => exact h.elim
theorem de_isi {t : WSr} {T : Str} {tp p : Pos} (ty : Ty) (he : DS X c e t) (hg : Gl X "isinstance") (hm : X.mg "isinstance" = none) (hgT : Gl X T) (hmT : X.mg T = none) (hT : bootBuiltins T = some (.type (tyName ty))) (hn : T ≠ "__name__" := by decide) (hdT : (T == ("__debug__" : Str)) = false := by decide)
    (h1 : starEach (e :: [.Name T tp]) X.env = (false, eval e X.env) :: starEach [.Name T tp] X.env := by rfl) (h2 : starEach [.Name T tp] X.env = (false, eval (.Name T tp) X.env) :: starEach [] X.env := by rfl) (hpl : (backTo pos (starEach [.Name T tp] X.env)).any (·.1) = false := by rfl) :
    DE X c (.Call (.Name "isinstance" p) [e, .Name T tp] [] pos) (wIsi ty t) := by
  have hT' : PE X (.Name T tp) (tC (.ty (tyName ty))) := pe_bltn hgT hmT hT rfl hn hdT
  refine (pe_callB (x := "isinstance") (id := "isinstance") call_isi hg hm (by decide +kernel) (pa_cons he (pa_cons hT' pa_nil h2) h1) (by decide) (by decide) h1 hpl).imp fun σ H Q h => ?_
  obtain ⟨F, S, R, rp, h, k⟩ := h
  refine ⟨F, S, _, rp, h, fun x S1 v F1 H1 q n1 r1 rx => ?_⟩
  obtain ⟨d, pd, q⟩ := okV_pk r1 q rx
  exact ⟨v, .ty (tyName ty), .type (tyD d), .type (tyName ty), isiB d ty, rfl, .ty _, tyOf_pk r1.fz pd q.1, kit_ty (isi_kit ty d q.1), k _ _ _ _ _ q.2 n1 r1 rfl⟩
/-! ### slices -/
def LO (c : Cd) (t : WO) : TO := fun σ H Q => ∃ F S R, Rep c F S σ H ∧ t S R ∧ ∀ d S' F' H', R d S' → Nx c.pr S σ F H S' F' H' → Rep c F' S' σ H' → Q d H'
abbrev DO (X : Cx) (c : Cd) (e : Option Expr) (t : WO) : Prop := PO X e (LO c t)
theorem do_none : DO X c none wON := ⟨fun pins s σ H Q I h => by
  obtain ⟨F, S, R, rp, h, k⟩ := h
  exact po_none.run pins s σ H Q I (k _ _ _ _ h (.refl ..) rp)⟩
theorem do_some {t : WE} (he : DE X c e t) : DO X c (some e) (wOS t) := ⟨fun pins s σ H Q I h => (po_some he).run pins s σ H Q I (by
  obtain ⟨F, S, R, rp, h, k⟩ := h
  refine ⟨F, S, _, rp, h, fun d S1 v F1 H1 q n1 r1 rv => ?_⟩
  cases d with
  | int i => exact ⟨i, rv, k _ _ _ _ q n1 r1⟩
  | _ => exact q.elim)⟩
theorem RvL.cut {pr : Addr} {F : Hp} {ds : List D} {vs : List V} (r : RvL pr F ds vs) (lo hi : Option Int) : RvL pr F (cutD ds lo hi) (cutV vs lo hi) := by
  unfold cutD cutV
  rw [r.length]
  exact (r.drop _).take _
theorem de_slT {t : WSr} {tl th : WO} {lo hi : Option Expr} {p2 : Pos} (he : DS X c e t) (hl : DO X c lo tl) (hh : DO X c hi th) : DE X c (.Subscript e (.Slice lo hi none p2) pos) (wSlT t tl th) := (pe_slice sl_tupA he hl hh).imp fun σ H Q h => by
  obtain ⟨F, S, R, rp, h, k⟩ := h
  refine ⟨F, S, _, rp, h, fun x S1 v F1 H1 q n1 r1 rx => ⟨F1, S1, _, r1, q, fun i S2 F2 H2 q n2 r2 => ⟨F2, S2, _, r2, q, fun j S3 F3 H3 q n3 r3 => ?_⟩⟩⟩
  have n := (n1.trans n2).trans n3
  obtain ⟨d, pd, q⟩ := okV_pk r3 q (rx.mono (n2.le.trans n3.le))
  cases d with
  | tup xs =>
    obtain ⟨a, vs, rfl, h1, rl, h2⟩ := pd.sqt (K := X.K) r3.fz
    refine ⟨a, vs, rfl, h1, fun hw => ?_, fun hw p hp => ?_⟩
    · have e : cutD xs i j = xs := by
        unfold cutD
        rw [← rl.length, hw.1, hw.2, List.drop_zero, Nat.sub_zero, rl.length, List.take_length]
      have q' : R (.tup (cutD xs i j)) S3 := q
      rw [e] at q'
      exact k _ S3 _ F3 H3 q' n r3 ⟨a, vs, rfl, h2, rl⟩
    · obtain ⟨f, g, l⟩ := r3.fz.new (o := .tup (cutV vs i j)) hp tup_nt (r3.nepr hp)
      exact k _ S3 _ _ _ q (n.trans (.grow l g)) (r3.grow l g f) ⟨p, _, rfl, upd_same, RvL.mono g.le _ _ (rl.cut i j)⟩
  | _ => exact q.elim
theorem dl_slL {t : WSr} {tl th : WO} {lo hi : Option Expr} {p2 : Pos} (he : DS X c e t) (hl : DO X c lo tl) (hh : DO X c hi th) : DFr X c (.Subscript e (.Slice lo hi none p2) pos) (wSlL t tl th) := (pe_slice sl_list he hl hh).imp fun σ H Q h => by
  obtain ⟨F, S, R, rp, h, k⟩ := h
  refine ⟨F, S, _, rp, h, fun x S1 v F1 H1 q n1 r1 rx => ⟨F1, S1, _, r1, q, fun i S2 F2 H2 q n2 r2 => ⟨F2, S2, _, r2, q, fun j S3 F3 H3 q n3 r3 => ?_⟩⟩⟩
  have n := (n1.trans n2).trans n3
  obtain ⟨d, pd, q⟩ := okV_pk r3 q (rx.mono (n2.le.trans n3.le))
  cases d with
  | lst xs =>
    obtain ⟨a, vs, rfl, h1, rl, h2⟩ := pd.sql (K := X.K)
    refine ⟨a, vs, rfl, h1, fun p hp => ?_⟩
    obtain ⟨nf, rf⟩ := r3.fresh (o := .lst (cutV vs i j)) hp
    exact k _ S3 _ _ _ q (n.trans nf) rf (newL r3 n hp (rl.cut i j))
  | _ => exact q.elim
end
end DL

set_option Elab.async false
set_option linter.all false
set_option maxRecDepth 100000
set_option maxHeartbeats 4000000
/-! Statements. -/
namespace DL
open PySem PySem.Spec PyProof.Rows L2
/-- what follows, at the data level, over the heap -/
structure EnR (c : Cd) (F : Hp) (E : En) (D : Ends) : Prop where
  nx : ∀ F' S' σ' H', Le F F' → Rep c F' S' σ' H' → E.nx S' → D.nx σ' H'
  rt : ∀ F' d v H', Keep c.pr c.H0 H' → Amb c.K c.T c.pr c.ps c.xs H' → Fz c.pr F' H' → Gr c.F0 c.H0 F' → E.rt d → Rv c.pr F' d v → D.rt v H'
  bk : ∀ F' S' σ' H', Le F F' → Rep c F' S' σ' H' → E.bk S' → D.bk σ' H'
  ct : ∀ F' S' σ' H', Le F F' → Rep c F' S' σ' H' → E.ct S' → D.ct σ' H'
theorem EnR.mono {c : Cd} {F F1 : Hp} {E : En} {D : Ends} (h : EnR c F E D) (l : Le F F1) : EnR c F1 E D :=
  ⟨fun F' S' σ' H' l' => h.nx F' S' σ' H' (l.trans l'), h.rt, fun F' S' σ' H' l' => h.bk F' S' σ' H' (l.trans l'), fun F' S' σ' H' l' => h.ct F' S' σ' H' (l.trans l')⟩
def LS (c : Cd) (t : WS) : TS := fun D σ H => ∃ F S E, Rep c F S σ H ∧ t E S ∧ EnR c F E D
abbrev DSt (X : Cx) (c : Cd) (st : Stmt) (t : WS) : Prop := PS X st (LS c t)
abbrev DSts (X : Cx) (c : Cd) (st : List Stmt) (t : WS) : Prop := PSs X st (LS c t)
section
variable {X : Cx} {c : Cd} {EX : Str → Prop} {k : Nat} {a b e : Expr} {es : List Expr} {st : Stmt} {sts rest : List Stmt} {pos : Pos}
theorem _root_.L2.PS.imp {t t' : TS} (h : PS X st t) (i : ∀ D σ H, t' D σ H → t D σ H) : PS X st t' := ⟨fun pins s σ H D I q => h.run pins s σ H D I (i D σ H q)⟩
theorem _root_.L2.PSs.imp {t t' : TS} (h : PSs X sts t) (i : ∀ D σ H, t' D σ H → t D σ H) : PSs X sts t' := ⟨fun pins s σ H D I q => h.run pins s σ H D I (i D σ H q)⟩
theorem ss_nil : DSts X c [] sNext := pss_nil.imp fun D σ H h => by
  obtain ⟨F, S, E, r, h, k⟩ := h
  exact k.nx F S σ H (.refl _) r h
theorem ss_cons {t u : WS} (h1 : DSt X c st t) (h2 : DSts X c rest u) : DSts X c (st :: rest) (sSeq t u) := (pss_cons h1 h2).imp fun D σ H h => by
  obtain ⟨F, S, E, r, h, k⟩ := h
  exact ⟨F, S, _, r, h, ⟨fun F' S' σ' H' l r q => ⟨F', S', E, r, q, k.mono l⟩, k.rt, k.bk, k.ct⟩⟩
theorem ss_one {t : WS} (h1 : DSt X c st t) : DSts X c [st] t := pss_one h1
theorem s_ret {t : WE} (h : DE X c e t) : DSt X c (.Return (some e) pos) (sRet t) := (ps_ret h).imp fun D σ H h => by
  obtain ⟨F, S, E, r, h, k⟩ := h
  exact ⟨F, S, _, r, h, fun d S' v F' H' q n r' rv => k.rt F' d v H' r'.keep r'.amb r'.fz r'.gr q rv⟩
theorem s_if {cd : Expr} {sa sb : List Stmt} {t : WT} {u w : WS} (hc : DT X c cd t) (ha : DSts X c sa u) (hb : DSts X c sb w) : DSt X c (.If cd sa sb pos) (sIf t u w) := (ps_if hc ha hb).imp fun D σ H h => by
  obtain ⟨F, S, E, r, h, k⟩ := h
  refine ⟨F, S, _, r, h, fun b S1 F1 H1 q n1 r1 => ?_⟩
  cases b with
  | true => exact iteT ⟨F1, S1, E, r1, ifT q, k.mono n1.le⟩
  | false => exact iteF ⟨F1, S1, E, r1, ifF q, k.mono n1.le⟩
theorem s_expr {t : WE} (h : DE X c e t) (hs : swapsWith e none pos.line X.env = pure false := by rfl) : DSt X c (.Expr e pos) (sDrop t) := (ps_expr h hs).imp fun D σ H h => by
  obtain ⟨F, S, E, r, h, k⟩ := h
  exact ⟨F, S, _, r, h, fun d S' v F' H' q n r' rv => k.nx F' S' σ H' n.le r' q⟩
theorem s_break : DSt X c (.Break pos) sBreak := ps_break.imp fun D σ H h => by
  obtain ⟨F, S, E, r, h, k⟩ := h
  exact k.bk F S σ H (.refl _) r h
/-- a name gets a value -/
theorem own_set_ne {S : Sl} {σ : Sg} {i j : Nat} {x : SV} {v : V} {p : Addr} (hj : j ≠ i) (h : OwnAt (S.set i x) (σ.set i (some v)) j p) : OwnAt S σ j p := by
  obtain ⟨h, e⟩ := h
  rw [getS_set_ne (Ne.symm hj)] at h
  rw [List.getElem?_set_ne (Ne.symm hj)] at e
  exact ⟨h, e⟩
theorem Rep.setN {F H H0 : Hp} {S : Sl} {σ : Sg} {i : Nat} {x : SV} {v : V} (r : Rep c F S σ H) (n : NvR c S σ F H0 H x v) : Rep c F (S.set i x) (σ.set i (some v)) H := by
  obtain ⟨rs, ow⟩ := n
  have own_i : ∀ p, OwnAt (S.set i x) (σ.set i (some v)) i p → v = .ref p ∧ ¬ Owned S σ p := fun p h => by
    obtain ⟨h, e⟩ := h
    have hi : i < S.length := by
      have : getS (S.set i x) i ≠ .un := by rcases h with ⟨_, z⟩ | ⟨_, z⟩ | ⟨_, z⟩ <;> rw [z] <;> simp
      have := getS_lt this
      rwa [List.length_set] at this
    rw [getS_set_self hi] at h
    rw [List.getElem?_set_self (by rw [← r.len]; exact hi)] at e
    have ev : v = .ref p := by injection e with e; injection e
    refine ⟨ev, ?_⟩
    rcases h with ⟨_, z⟩ | ⟨_, z⟩ | ⟨_, z⟩ <;> (rw [z] at ow; exact (ow p ev).2)
  refine ⟨r.amb0, r.amb, r.keep, r.fz, r.gr, fun j => ?_, fun j l p a1 a2 => ?_, by rw [List.length_set, List.length_set]; exact r.len⟩
  · by_cases hj : i = j
    · subst hj
      by_cases hi : i < S.length
      · rw [getS_set_self hi, List.getElem?_set_self (by rw [← r.len]; exact hi)]
        exact rs
      · have : getS (S.set i x) i = .un := by
          unfold getS
          rw [List.getD, List.getElem?_eq_none (by rw [List.length_set]; exact Nat.le_of_not_lt hi)]
          rfl
        rw [this]; trivial
    · rw [getS_set_ne hj, List.getElem?_set_ne hj]
      exact r.slot j
  · by_cases hj : j = i
    · subst hj
      by_cases hl : l = j
      · exact hl.symm
      · obtain ⟨_, no⟩ := own_i p a1
        exact absurd ⟨l, own_set_ne hl a2⟩ no
    · by_cases hl : l = i
      · subst hl
        obtain ⟨_, no⟩ := own_i p a2
        exact absurd ⟨j, own_set_ne hj a1⟩ no
      · exact r.apart j l p (own_set_ne hj a1) (own_set_ne hl a2)
theorem s_set {i : Nat} {x : Str} {pos' : Pos} {t : WN} (hi : X.N[i]? = some x) (hx : Loc X.env.scope x) (he : DN X c e t) (B : Ctx X c EX k) (hs : swapsWith e (some (.Name x pos')) pos.line X.env = pure false := by rfl) (hf : X.fn x = true ∨ X.env.scope.names.lookup x = some .local := by first | exact .inl rfl | exact .inr rfl | assumption) :
    DSt X c (.Assign [.Name x pos'] e pos) (sSet i t) := (ps_set B.nd hi hx he hs hf).imp fun D σ H h => by
  obtain ⟨F, S, E, r, h, k⟩ := h
  exact ⟨F, S, _, r, h, fun d S' v F' H' q n r' nv => k.nx F' _ _ H' n.le (r'.setN nv) q⟩
/-! ### targets -/
def LG (c : Cd) (sl : List Nat) (g : WG) : TG := fun v σ H Q => ∃ F S d R, Rep c F S σ H ∧ Rv c.pr F d v ∧ g d S R ∧ ∀ S' σ', Rep c F S' σ' H → (∀ j, j ∉ sl → σ'[j]? = σ[j]?) → σ'.length = σ.length → R S' → Q σ' H
def LGs (c : Cd) (sl : List Nat) (g : WGs) : TGs := fun vs σ H Q => ∃ F S ds R, Rep c F S σ H ∧ RvL c.pr F ds vs ∧ g ds S R ∧ ∀ S' σ', Rep c F S' σ' H → (∀ j, j ∉ sl → σ'[j]? = σ[j]?) → σ'.length = σ.length → R S' → Q σ' H
abbrev DG (X : Cx) (c : Cd) (sl : List Nat) (e : Expr) (g : WG) : Prop := PG X e (LG c sl g)
abbrev DGs (X : Cx) (c : Cd) (sl : List Nat) (es : List Expr) (g : WGs) : Prop := PGs X es (LGs c sl g)
theorem _root_.L2.PG.imp {t t' : TG} (h : PG X e t) (i : ∀ v σ H Q, t' v σ H Q → t v σ H Q) : PG X e t' := ⟨fun pins s σ H v u Q I r q => h.run pins s σ H v u Q I r (i v σ H Q q)⟩
theorem _root_.L2.PGs.imp {t t' : TGs} (h : PGs X es t) (i : ∀ v σ H Q, t' v σ H Q → t v σ H Q) : PGs X es t' := ⟨fun pins s σ H v u Q I r q => h.run pins s σ H v u Q I r (i v σ H Q q)⟩
theorem g_name {i : Nat} {x : Str} (hN : X.N.Nodup) (hi : X.N[i]? = some x) (hx : Loc X.env.scope x) (hf : X.fn x = true ∨ X.env.scope.names.lookup x = some .local := by first | exact .inl rfl | exact .inr rfl | assumption) : DG X c [i] (.Name x pos) (bName i) := (pg_name hN hi hx hf).imp fun v σ H Q h => by
  obtain ⟨F, S, d, R, r, rv, h, k⟩ := h
  exact k _ _ (r.setN (x := .dat d) (H0 := H) ⟨⟨v, rfl, rv⟩, trivial⟩) (fun j hj => by rw [List.getElem?_set_ne (fun z => hj (by simp [z]))]) (by rw [List.length_set]) h
theorem gs_nil : DGs X c [] [] bNil := pgs_nil.imp fun v σ H Q h => by
  obtain ⟨F, S, ds, R, r, rv, h, k⟩ := h
  cases ds with
  | nil => exact ⟨rv, k _ _ r (fun _ _ => rfl) rfl h⟩
  | cons d ds => exact (show False from h).elim
theorem gs_cons {g : WG} {u : WGs} {sl sl2 : List Nat} (h1 : DG X c sl e g) (h2 : DGs X c sl2 es u) (hs : (assignEach (e :: es) X.env).map (·.2) = assign e X.env :: (assignEach es X.env).map (·.2) := by rfl) : DGs X c (sl ++ sl2) (e :: es) (bCons g u) := (pgs_cons h1 h2 hs).imp fun v σ H Q h => by
  obtain ⟨F, S, ds, R, r, rv, h, k⟩ := h
  cases ds with
  | nil => exact (show False from h).elim
  | cons d ds =>
    obtain ⟨v, t, e, r1, r2⟩ := rv
    exact ⟨v, t, e, F, S, d, _, r, r1, h, fun S1 σ1 rr a1 l1 q => ⟨F, S1, ds, R, rr, r2, q, fun S2 σ2 r3 a2 l2 q => k S2 σ2 r3 (fun j hj => (a2 j fun z => hj (List.mem_append_right _ z)).trans (a1 j fun z => hj (List.mem_append_left _ z))) (l2.trans l1) q⟩⟩
theorem g_tup {j n : Nat} {g : WGs} {sl : List Nat} (B : Ctx X c EX k) (h : DGs X c sl es g) (hn : (assignEach es X.env).length = n := by rfl) (hst : (assignEach es X.env).findIdx? (·.1) = none := by rfl) : DG X c sl (.Tuple es j pos) (bTup n g) := (pg_tup B.calm h hn hst).imp fun v σ H Q h => by
  obtain ⟨F, S, d, R, r, rv, h, k⟩ := h
  cases d with
  | tup ds =>
    obtain ⟨a, vs, e, h1, rl⟩ := rv
    exact ⟨a, vs, e, .of (r.fz.le _ _ h1), by rw [rl.length]; exact h.1, F, S, ds, R, r, rl, h.2, k⟩
  | _ => exact (show False from h).elim
theorem s_asg {tg : Expr} {t : WE} {g : WG} {sl : List Nat} (he : DE X c e t) (hg : DG X c sl tg g) (hs : swapsWithSole [tg] e pos.line X.env = pure false := by rfl) (hw : swappedStores [tg] e X.env = pure none := by rfl)
    (h1 : (assignEach [tg] X.env).map (·.2) = [assign tg X.env] := by rfl) : DSt X c (.Assign [tg] e pos) (sAsg t g) := (ps_asg he hg hs hw h1).imp fun D σ H h => by
  obtain ⟨F, S, E, r, h, k⟩ := h
  exact ⟨F, S, _, r, h, fun d S' v F' H' q n r' rv => ⟨F', S', d, _, r', rv, q, fun S2 σ2 r2 _ _ q => k.nx F' S2 σ2 H' n.le r2 q⟩⟩
/-! ### a op= e -/
theorem ip_of {op : Operator} {r : R2} (h : OpR X (inplaceOp op) r) : PIp X op r := fun pins s σ H x y v u Q I rx ry q => h pins s σ H x y v u Q I rx ry q
theorem io_add : DOp X c (inplaceOp .Add) addI := dop_int0 (g' := fun i j => D.int (i + j)) iop_add (fun d e k q => by
  cases d <;> cases e <;> first | exact ⟨_, _, rfl, rfl, q⟩ | exact q.elim) fun _ _ _ => rfl
theorem s_aug {i : Nat} {x : Str} {op : Operator} {pos' : Pos} {t : WE} {r : D → D → (D → Prop) → Prop} (ho : DOp X c (inplaceOp op) r) (hi : X.N[i]? = some x) (hx : Loc X.env.scope x) (he : DE X c e t) (B : Ctx X c EX k) (hf : X.fn x = true ∨ X.env.scope.names.lookup x = some .local := by first | exact .inl rfl | exact .inr rfl | assumption) :
    DSt X c (.AugAssign (.Name x pos') op e pos) (sAug' i r t) := (ps_aug B.nd hi hx he (ip_of ho) hf).imp fun D σ H h => by
  obtain ⟨F, S, E, rp, ⟨⟨d0, h0⟩, h⟩, k⟩ := h
  have q0 := rp.slot i
  rw [h0] at q0
  obtain ⟨v0, e0, _⟩ := q0
  refine ⟨v0, e0, F, S, _, rp, h, fun e' S1 u F1 H1 q n1 r1 rv => ?_⟩
  have sl := r1.slot i
  cases hg : getS S1 i with
  | dat d =>
    rw [hg] at sl q
    obtain ⟨v, e1, rd⟩ := sl
    rw [e0] at e1
    cases e1
    refine ⟨F1, d, e', _, r1.fz, fun a h => r1.nepr h, rd.pk r1.fz.le, rv.pk r1.fz.le, q, fun z w F' H' q l g f rz => ?_⟩
    have r2 := r1.grow l g f
    exact k.nx F' _ _ H' (n1.le.trans g.le) (r2.setN (x := .dat z) (H0 := H') ⟨⟨w, rfl, rz⟩, trivial⟩) q
  | _ => rw [hg] at q; exact (show False from q).elim
end
end DL

set_option Elab.async false
set_option linter.all false
set_option maxRecDepth 100000
set_option maxHeartbeats 4000000
/-! What is walked; for and while. -/
namespace DL
open PySem PySem.Spec PyProof.Rows L2
/-- what an iterator gives: at each turn the next of ds. Good: what it leans on -/
structure Wk (c : Cd) (F0 : Hp) (S : Sl) (σ : Sg) (dep : List Nat) (J : It) (ds : List D) : Prop where
  ex : ∃ Good : Hp → Hp → Prop,
    (∀ F H S1 σ1, Le F0 F → Rep c F S1 σ1 H → (∀ i ∈ dep, getS S1 i = getS S i ∧ σ1[i]? = σ[i]?) → Good F H) ∧
    (∀ i F H, i < ds.length → Good F H → J.go i H) ∧ (∀ F H, Good F H → J.stop ds.length H) ∧
    (∀ i F H x H', i < ds.length → Good F H → Fz c.pr F H → (∀ a, H a = none → a ≠ c.pr) → J.yld i H x H' → ∃ F' d, ds[i]? = some d ∧ Le H H' ∧ Gr F H F' ∧ Fz c.pr F' H' ∧ Rv c.pr F' d x)
def LI (c : Cd) (w : WI) : TI := fun σ H R => ∃ F S R0, Rep c F S σ H ∧ w S R0 ∧ ∀ dep ds S' J F' H', R0 dep ds S' → Nx c.pr S σ F H S' F' H' → Rep c F' S' σ H' → Wk c F' S' σ dep J ds → ds.length ≤ sizeLine → R J H'
abbrev DI (X : Cx) (c : Cd) (tg e : Expr) (w : WI) : Prop := PI X tg e (LI c w)
def SrcIs (S : Sl) (x : Src) (d : D) : Prop := match x with
  | .dat e => e = d
  | .slot i => (getS S i).val = some d
section
variable {X : Cx} {c : Cd} {EX : Str → Prop} {k : Nat} {tg a b e : Expr} {es : List Expr} {st : Stmt} {sts rest : List Stmt} {pos : Pos}
theorem _root_.L2.PI.imp {t t' : TI} (h : PI X tg e t) (i : ∀ σ H R, t' σ H R → t σ H R) : PI X tg e t' := ⟨fun pins s σ H R I q => h.run pins s σ H R I (i σ H R q)⟩
/-- the objects that an operand's value is -/
theorem src_same {F F' H' : Hp} {S S1 : Sl} {σ σ1 : Sg} {x : Src} {v : V} {d : D} (hx : SrcR c.pr F σ x v) (ok : SrcIs S x d) (l : Le F F') (r : Rep c F' S1 σ1 H') (ag : ∀ i ∈ depS x, getS S1 i = getS S i ∧ σ1[i]? = σ[i]?) : Pk c.pr F' H' d v := by
  cases x with
  | dat e =>
    have : e = d := ok
    subst this; exact (Rv.mono l _ _ hx).pk r.fz.le
  | slot i =>
    obtain ⟨e1, e2⟩ := ag i (by simp [depS])
    exact r.pkSlot (by rw [e1]; exact ok) (by rw [e2]; exact hx)
theorem okV_ok {S : Sl} {x : Src} {k : D → Prop} (h : okV S x k) : ∃ d, SrcIs S x d ∧ k d := by
  cases x with
  | dat d => exact ⟨d, rfl, h⟩
  | slot i =>
    have h' : (match (getS S i).val with | some d => k d | none => False) := h
    cases e : (getS S i).val with
    | none => rw [e] at h'; exact h'.elim
    | some d => rw [e] at h'; exact ⟨d, e, h'⟩
theorem iter_list {pins : List (Addr × Obj)} {s : Shared} {σ : Sg} {H : Hp} {R : It → Hp → Prop} {p : Addr} {vs : List V} (I : Inv X pins σ H s) (hq : SqL X.K H p vs) (q : R (Itl X.K p) H) : wpAny (model X.prog X.w) X.A (pyIter (.ref p)) (PIE X pins σ tg R) X.xe s := by
  obtain ⟨its, rv, pl, hz⟩ := I.list hq
  refine wpAny_pyIter_list pl.isList ?_
  refine ⟨s.heap.objs.size, [s.heap.objs.size], _, _, H, rfl, I.kept (t' := s.toks) fun b o e => Heap.get?_push_of_some _ e, turn_list p _, ⟨_, Heap.get?_push_size _ rfl, rfl, rfl⟩, fun b hb => ?_, q⟩
  have e : b = s.heap.objs.size := by simpa using hb
  subst e
  exact I.fpOk (Nat.le_refl _) (I.hok.fresh (Nat.le_refl _))
theorem iter_tup {pins : List (Addr × Obj)} {s : Shared} {σ : Sg} {H : Hp} {R : It → Hp → Prop} {p : Addr} {vs : List V} (I : Inv X pins σ H s) (hq : SqT X.K H p vs) (q : R (Itt X.K p) H) : wpAny (model X.prog X.w) X.A (pyIter (.ref p)) (PIE X pins σ tg R) X.xe s := by
  obtain ⟨its, rv, pl, hz⟩ := I.tuple hq
  refine wpAny_pyIter_tuple (show s.heap.IsTuple p its.toArray from pl) ?_
  refine ⟨s.heap.objs.size, [s.heap.objs.size], _, _, H, rfl, I.kept (t' := s.toks) fun b o e => Heap.get?_push_of_some _ e, turn_tuple p _, ⟨_, Heap.get?_push_size _ rfl, rfl, rfl⟩, fun b hb => ?_, q⟩
  have e : b = s.heap.objs.size := by simpa using hb
  subst e
  exact I.fpOk (Nat.le_refl _) (I.hok.fresh (Nat.le_refl _))
/-- an operand comes, with what is known of it -/
theorem src_run {t : WSr} (h : DS X c e t) {pins : List (Addr × Obj)} {s : Shared} {σ : Sg} {F H : Hp} {S : Sl} {R1 : D → Src → Sl → Prop} (I : Inv X pins σ H s) (rp : Rep c F S σ H) (hw : t S fun x S1 => okV S1 x fun d => R1 d x S1)
    {Q : Value → Shared → Prop} (k : ∀ u s1 v H1 x S1 F1 d, Inv X pins σ H1 s1 → RelV v u → SrcR c.pr F1 σ x v → Nx c.pr S σ F H S1 F1 H1 → Rep c F1 S1 σ H1 → SrcIs S1 x d → R1 d x S1 → Q u s1) : wpAny (model X.prog X.w) X.A (eval e X.env) Q X.xe s := by
  refine thn (h.run pins s σ H (fun v H1 => ∃ x S1 F1, SrcR c.pr F1 σ x v ∧ Nx c.pr S σ F H S1 F1 H1 ∧ Rep c F1 S1 σ H1 ∧ (okV S1 x fun d => R1 d x S1)) I ⟨F, S, _, rp, hw, fun x S1 v F1 H1 q n1 r1 rx => ⟨x, S1, F1, rx, n1, r1, q⟩⟩) fun u s1 ⟨v, H1, I1, rv, x, S1, F1, rx, n1, r1, q⟩ => ?_
  obtain ⟨d, ok, q⟩ := okV_ok q
  exact k u s1 v H1 x S1 F1 d I1 rv rx n1 r1 ok q
theorem wk_list {F1 H1 : Hp} {S1 : Sl} {σ : Sg} {x : Src} {p : Addr} {xs : List D} (rx : SrcR c.pr F1 σ x (.ref p)) (ok : SrcIs S1 x (.lst xs)) : Wk c F1 S1 σ (depS x) (Itl X.K p) xs := by
  refine ⟨fun F' H' => ∃ vs', SqL X.K H' p vs' ∧ RvL c.pr F' xs vs' ∧ H' p = some (.lst vs'), fun F' H' S2 σ2 l r ag => ?_, fun i F' H' hi ⟨vs', g1, g2, _⟩ => ?_, fun F' H' ⟨vs', g1, g2, _⟩ => ⟨vs', g1, by rw [g2.length]; exact Nat.le_refl _⟩, fun i F' H' y H'' hi ⟨vs', g1, g2, _⟩ fz np yl => ?_⟩
  · obtain ⟨p', vs', e', g1, g2, g3⟩ := (src_same rx ok l r ag).sql (K := X.K)
    cases e'
    exact ⟨vs', g1, g2, g3⟩
  · obtain ⟨v', h', _⟩ := g2.get (List.getElem?_eq_getElem hi)
    exact ⟨vs', v', g1, h'⟩
  · obtain ⟨e1, e2⟩ := yl
    subst e1
    obtain ⟨d', h1', h2'⟩ := g2.get' (e2 vs' g1)
    exact ⟨F', d', h1', .refl _, .refl _ _, fz, h2'⟩
theorem wk_tup {F1 H1 : Hp} {S1 : Sl} {σ : Sg} {x : Src} {p : Addr} {xs : List D} (rx : SrcR c.pr F1 σ x (.ref p)) (ok : SrcIs S1 x (.tup xs)) : Wk c F1 S1 σ (depS x) (Itt X.K p) xs := by
  refine ⟨fun F' H' => ∃ vs', SqT X.K H' p vs' ∧ RvL c.pr F' xs vs', fun F' H' S2 σ2 l r ag => ?_, fun i F' H' hi ⟨vs', g1, g2⟩ => ?_, fun F' H' ⟨vs', g1, g2⟩ => ⟨vs', g1, by rw [g2.length]; exact Nat.le_refl _⟩, fun i F' H' y H'' hi ⟨vs', g1, g2⟩ fz np yl => ?_⟩
  · obtain ⟨p', vs', e', g1, g2, g3⟩ := (src_same rx ok l r ag).sqt (K := X.K) r.fz
    cases e'
    exact ⟨vs', g1, g2⟩
  · obtain ⟨v', h', _⟩ := g2.get (List.getElem?_eq_getElem hi)
    exact ⟨vs', v', g1, h'⟩
  · obtain ⟨e1, e2⟩ := yl
    subst e1
    obtain ⟨d', h1', h2'⟩ := g2.get' (e2 vs' g1)
    exact ⟨F', d', h1', .refl _, .refl _ _, fz, h2'⟩
theorem lst_line {pins : List (Addr × Obj)} {s : Shared} {σ : Sg} {F H : Hp} {xs : List D} {p : Addr} (I : Inv X pins σ H s) (pk : Pk c.pr F H (.lst xs) (.ref p)) : ∃ vs, SqL X.K H p vs ∧ xs.length ≤ sizeLine := by
  obtain ⟨p', vs, e, h1, rl, h2⟩ := pk.sql (K := X.K)
  cases e
  obtain ⟨z, _⟩ := I.hok p _ h2
  exact ⟨vs, h1, by rw [← rl.length]; exact z⟩
theorem tup_line {pins : List (Addr × Obj)} {s : Shared} {σ : Sg} {F H : Hp} {xs : List D} {p : Addr} (I : Inv X pins σ H s) (fz : Fz c.pr F H) (pk : Pk c.pr F H (.tup xs) (.ref p)) : ∃ vs, SqT X.K H p vs ∧ xs.length ≤ sizeLine := by
  obtain ⟨p', vs, e, h1, rl, h2⟩ := pk.sqt (K := X.K) fz
  cases e
  obtain ⟨z, _⟩ := I.hok p _ (fz.le _ _ h2)
  exact ⟨vs, h1, by rw [← rl.length]; exact z⟩
/-- a list or a tuple is walked -/
theorem di_seq {t : WSr} (h : DS X c e t) : DI X c tg e (iSeq t) := by
  refine ⟨fun pins s σ H R I hw => ?_⟩
  obtain ⟨F, S, R0, rp, hw, k⟩ := hw
  refine src_run (R1 := fun d x S1 => itW d fun xs => R0 (depS x) xs S1) h I rp hw fun u s1 v H1 x S1 F1 d I1 rv rx n1 r1 ok q => ?_
  have p1 : Pk c.pr F1 H1 d v := src_same rx ok (.refl _) r1 (fun _ _ => ⟨rfl, rfl⟩)
  cases d with
  | lst xs =>
    obtain ⟨p, vs, rfl, _⟩ := id p1
    cases rv
    obtain ⟨vs, h1, lz⟩ := lst_line I1 p1
    exact iter_list I1 h1 (k _ xs S1 _ F1 H1 q n1 r1 (wk_list (H1 := H1) rx ok) lz)
  | tup xs =>
    obtain ⟨p, vs, rfl, _⟩ := id p1
    cases rv
    obtain ⟨vs, h1, lz⟩ := tup_line I1 r1.fz p1
    exact iter_tup I1 h1 (k _ xs S1 _ F1 H1 q n1 r1 (wk_tup (H1 := H1) rx ok) lz)
  | _ => exact (show False from q).elim
/-! ### ranges -/
theorem rngD_get {lo : Int} {n i : Nat} (h : i < n) : (rngD lo n)[i]? = some (.int (lo + (i : Int))) := by
  unfold rngD
  rw [List.getElem?_map, List.getElem?_range h]
  rfl
theorem rngD_len {lo : Int} {n : Nat} : (rngD lo n).length = n := by unfold rngD; rw [List.length_map, List.length_range]
theorem rngC_get {lo c' : Int} {n i : Nat} (h : i < n) : (rngC lo c' n)[i]? = some (.int (lo + (i : Int) * c')) := by
  unfold rngC
  rw [List.getElem?_map, List.getElem?_range h]
  rfl
theorem rngC_len {lo c' : Int} {n : Nat} : (rngC lo c' n).length = n := by unfold rngC; rw [List.length_map, List.length_range]
theorem wk_rng {F : Hp} {S : Sl} {σ : Sg} {lo : Int} {n : Nat} : Wk c F S σ [] (Itr lo n) (rngD lo n) := by
  refine ⟨fun _ _ => True, fun _ _ _ _ _ _ _ => trivial, fun i F H hi _ => by rw [rngD_len] at hi; exact hi, fun F H _ => by rw [rngD_len]; exact Nat.le_refl _, fun i F H x H' hi _ fz np y => ?_⟩
  rw [rngD_len] at hi
  obtain ⟨e1, e2⟩ := y
  subst e1 e2
  exact ⟨F, _, rngD_get hi, .refl _, .refl _ _, fz, rfl⟩
theorem wk_rngC {F : Hp} {S : Sl} {σ : Sg} {lo c' : Int} {n : Nat} : Wk c F S σ [] (Itc lo c' n) (rngC lo c' n) := by
  refine ⟨fun _ _ => True, fun _ _ _ _ _ _ _ => trivial, fun i F H hi _ => by rw [rngC_len] at hi; exact hi, fun F H _ => by rw [rngC_len]; exact Nat.le_refl _, fun i F H x H' hi _ fz np y => ?_⟩
  rw [rngC_len] at hi
  obtain ⟨e1, e2⟩ := y
  subst e1 e2
  exact ⟨F, _, rngC_get hi, .refl _, .refl _ _, fz, rfl⟩
theorem di_r1 {t : WE} {p : Pos} (h : DE X c e t) (hm : X.mg "range" = none) (hg : Gl X "range" := by rfl) (hs : starEach [e] X.env = [(false, eval e X.env)] := by rfl) (hs2 : starEach (e :: []) X.env = (false, eval e X.env) :: starEach [] X.env := by rfl) : DI X c tg (.Call (.Name "range" p) [e] [] pos) (iR1 t) := (pi_range1 hg hm (pa_cons h pa_nil hs2) hs).imp fun σ H R hw => by
  obtain ⟨F, S, R0, rp, hw, k⟩ := hw
  refine ⟨F, S, _, rp, hw, fun d S1 v F1 H1 q n1 r1 rv => ?_⟩
  cases d with
  | int j =>
    obtain ⟨⟨q1, q2, q3, q4⟩, q⟩ := q
    have e : v = .int j := rv
    subst e
    exact ⟨j, rfl, by omega, by omega, k _ _ S1 _ F1 H1 q n1 r1 wk_rng (by rw [rngD_len]; exact line_le (by omega))⟩
  | _ => exact (show False from q).elim
theorem di_r2 {t u : WE} {p : Pos} (h : DE X c a t) (hb : DE X c b u) (hm : X.mg "range" = none) (hg : Gl X "range" := by rfl) (hs : starEach [a, b] X.env = [(false, eval a X.env), (false, eval b X.env)] := by rfl) (hs2 : starEach [b] X.env = [(false, eval b X.env)] := by rfl) (hs3 : starEach (a :: [b]) X.env = (false, eval a X.env) :: starEach [b] X.env := by rfl) (hs4 : starEach (b :: []) X.env = (false, eval b X.env) :: starEach [] X.env := by rfl) : DI X c tg (.Call (.Name "range" p) [a, b] [] pos) (iR2 t u) := (pi_range2 hg hm (pa_cons h (pa_cons hb pa_nil hs4) hs3) hs hs2).imp fun σ H R hw => by
  obtain ⟨F, S, R0, rp, hw, k⟩ := hw
  refine ⟨F, S, _, rp, hw, fun d S1 v F1 H1 q n1 r1 rv => ⟨F1, S1, _, r1, q, fun d' S2 v' F2 H2 q n2 r2 rv' => ?_⟩⟩
  cases d with
  | int i =>
    cases d' with
    | int j =>
      obtain ⟨⟨q1, q2, q3, q4⟩, q⟩ := q
      have e : v = .int i := rv
      have e' : v' = .int j := rv'
      subst e e'
      exact ⟨i, j, rfl, ⟨by omega, by omega, by omega, by omega⟩, k _ _ S2 _ F2 H2 q (n1.trans n2) r2 wk_rng (by rw [rngD_len, sizeLine_eq]; omega)⟩
    | _ => exact (show False from q).elim
  | _ => exact (show False from q).elim
theorem rgc2 {i j : Int} (h : RgOk i j) : RgC i j 2 ((j - i + 1) / 2).toNat := by
  obtain ⟨h1, h2, h3, h4⟩ := h
  have e : Builtin.Range.rangeSize i j 2 = (((j - i + 1) / 2).toNat : Int) := by
    unfold Builtin.Range.rangeSize
    simp only [show ((2 : Int) > 0) by decide, if_true]
    split <;> omega
  refine ⟨by decide, by decide, ?_, e⟩
  unfold Builtin.Range.small
  rw [e]
  simp only [Builtin.Range.rangeFitsLong, Bool.and_eq_true, Bool.or_eq_true, decide_eq_true_eq, beq_iff_eq, show ((2 : Int) > 0) by decide, if_true]
  first | omega | (split <;> omega) | (refine ⟨?_, ?_⟩ <;> omega)
theorem di_r3 {t u w : WE} {d : Expr} {p : Pos} (h : DE X c a t) (hb : DE X c b u) (hd : DE X c d w) (hm : X.mg "range" = none) (hg : Gl X "range" := by rfl) (hs : starEach [a, b, d] X.env = (false, eval a X.env) :: starEach [b, d] X.env := by rfl) (hpl : (backTo pos (starEach [b, d] X.env)).any (·.1) = false := by rfl) (hs4 : starEach (b :: [d]) X.env = (false, eval b X.env) :: starEach [d] X.env := by rfl) (hs5 : starEach (d :: []) X.env = (false, eval d X.env) :: starEach [] X.env := by rfl) : DI X c tg (.Call (.Name "range" p) [a, b, d] [] pos) (iR3 t u w) := (pi_range3 hg hm (pa_cons h (pa_cons hb (pa_cons hd pa_nil hs5) hs4) hs) hs hpl).imp fun σ H R hw => by
  obtain ⟨F, S, R0, rp, hw, k⟩ := hw
  refine ⟨F, S, _, rp, hw, fun d S1 v F1 H1 q n1 r1 rv => ⟨F1, S1, _, r1, q, fun d' S2 v' F2 H2 q n2 r2 rv' => ⟨F2, S2, _, r2, q, fun d'' S3 v'' F3 H3 q n3 r3 rv'' => ?_⟩⟩⟩
  have n := (n1.trans n2).trans n3
  cases d with
  | int i =>
    cases d' with
    | int j =>
      cases d'' with
      | int l =>
        obtain ⟨rg, q⟩ := q
        have e : v = .int i := rv
        have e' : v' = .int j := rv'
        have e'' : v'' = .int l := rv''
        subst e e' e''
        obtain ⟨q1, q2, q3, q4⟩ := id rg
        by_cases hl : l = -1
        · subst hl
          rw [if_pos rfl] at q
          exact ⟨i, j, -1, _, rfl, .neg (by omega) (by omega) (by omega) (by omega), k _ _ S3 _ F3 H3 q n r3 wk_rngC (by rw [rngC_len, sizeLine_eq]; omega)⟩
        · rw [if_neg hl] at q
          by_cases hl2 : l = 2
          · subst hl2
            rw [if_pos rfl] at q
            exact ⟨i, j, 2, _, rfl, rgc2 rg, k _ _ S3 _ F3 H3 q n r3 wk_rngC (by rw [rngC_len, sizeLine_eq]; omega)⟩
          · rw [if_neg hl2] at q
            exact q.elim
      | _ => exact (show False from q).elim
    | _ => exact (show False from q).elim
  | _ => exact (show False from q).elim
/-! ### for, while -/
theorem drop_cons {α : Type} {l : List α} {i : Nat} {d : α} (h : l[i]? = some d) : l.drop i = d :: l.drop (i + 1) := by
  obtain ⟨hi, e⟩ := List.getElem?_eq_some_iff.mp h
  rw [List.drop_eq_getElem_cons hi, e]
theorem s_for {w : WI} {g : WG} {t : WS} {sl : List Nat} {iter : Expr} {body : List Stmt} (B : Ctx X c EX k) (hp : PassesOwn (model X.prog X.w) X.A X.env X.xe) (hi : DI X c tg iter w) (hg : DG X c sl tg g) (hb : DSts X c body t)
    (hs : ∀ x, foldedSetIterable iter X.env x = pure x := by intro _; rfl) : DSt X c (.For tg iter body [] pos) (sFor w g t) := (ps_for hp B.calm hi hg hb hs).imp fun D σ H h => by
  obtain ⟨F, S, E, r, h, k⟩ := h
  refine ⟨F, S, _, r, h, fun dep ds S1 J F1 H1 ⟨hd, q⟩ n1 r1 wk lz => ?_⟩
  subst hd
  obtain ⟨Good, g1, g2, g3, g4⟩ := wk.ex
  have k1 := k.mono n1.le
  refine ⟨fun i m σ' H' => m = ds.length - i ∧ i ≤ ds.length ∧ ∃ F' S', Le F1 F' ∧ Rep c F' S' σ' H' ∧ forD g t E (ds.drop i) S', ⟨ds.length, by omega, by omega, F1, S1, .refl _, r1, q⟩, ?_⟩
  rintro i m σ' H' ⟨rfl, hi, F', S', l', r', q⟩
  have gd := g1 F' H' S' σ' l' r' (fun _ z => nomatch z)
  by_cases hlt : i < ds.length
  · refine .inr ⟨g2 i F' H' hlt gd, fun σ'' H'' => ∃ F' S', Le F1 F' ∧ Rep c F' S' σ'' H'' ∧ forD g t E (ds.drop (i + 1)) S', fun σ'' H'' hn => ⟨ds.length - (i + 1), by omega, rfl, by omega, hn⟩, fun x H'' y => ?_⟩
    obtain ⟨F2, d, e, l2, gr, fz, rv⟩ := g4 i F' H' x H'' hlt gd r'.fz (fun a h => r'.nepr h) y
    rw [drop_cons e] at q
    have r2 := r'.grow l2 gr fz
    refine ⟨F2, S', d, _, r2, rv, q, fun S3 σ3 r3 _ _ q => ⟨F2, S3, _, r3, q, ⟨fun F4 S4 σ4 H4 l4 r4 q => ⟨F4, S4, (l'.trans gr.le).trans l4, r4, q⟩, k1.rt, fun F4 S4 σ4 H4 l4 r4 q => k1.nx F4 S4 σ4 H4 ((l'.trans gr.le).trans l4) r4 q, fun F4 S4 σ4 H4 l4 r4 q => ⟨F4, S4, (l'.trans gr.le).trans l4, r4, q⟩⟩⟩⟩
  · have e : i = ds.length := by omega
    subst e
    rw [List.drop_length] at q
    exact .inl ⟨g3 F' H' gd, k1.nx F' S' σ' H' l' r' q⟩
theorem s_while {cd : WT} {t : WS} {cond : Expr} {body : List Stmt} (hp : PassesOwn (model X.prog X.w) X.A X.env X.xe) (hc : DT X c cond cd) (hb : DSts X c body t) : DSt X c (.While cond body [] pos) (sWhile cd t) := (ps_while hp hc hb).imp fun D σ H h => by
  obtain ⟨F, S, E, r, ⟨n, h⟩, k⟩ := h
  refine ⟨fun m σ' H' => ∃ F' S', Le F F' ∧ Rep c F' S' σ' H' ∧ whD cd t E m S', ⟨n, F, S, .refl _, r, h⟩, ?_⟩
  rintro m σ' H' ⟨F', S', l', r', q⟩
  cases m with
  | zero => exact (show False from q).elim
  | succ m =>
    refine ⟨F', S', _, r', q, fun b S1 F1 H1 q n1 r1 => ?_⟩
    cases b with
    | true =>
      refine iteT ⟨fun σ'' H'' => ∃ F' S', Le F F' ∧ Rep c F' S' σ'' H'' ∧ whD cd t E m S', fun σ'' H'' hn => ⟨m, by omega, hn⟩, F1, S1, _, r1, ifT q, ⟨fun F4 S4 σ4 H4 l4 r4 q => ⟨F4, S4, (l'.trans n1.le).trans l4, r4, q⟩, k.rt, fun F4 S4 σ4 H4 l4 r4 q => k.nx F4 S4 σ4 H4 ((l'.trans n1.le).trans l4) r4 q, fun F4 S4 σ4 H4 l4 r4 q => ⟨F4, S4, (l'.trans n1.le).trans l4, r4, q⟩⟩⟩
    | false => exact iteF (k.nx F1 S1 σ' H1 (l'.trans n1.le) r1 (ifF q))
end
end DL

set_option Elab.async false
set_option linter.all false
set_option maxRecDepth 100000
set_option maxHeartbeats 4000000
/-! Comprehensions. -/
namespace DL
open PySem PySem.Spec PyProof.Rows L2
section
variable {X : Cx} {c : Cd} {EX : Str → Prop} {k : Nat} {tg a b e : Expr} {es : List Expr} {pos : Pos}
theorem getS_wipe {S : Sl} {j : Nat} : ∀ {vs : List Nat}, j ∉ vs → getS (wipeS S vs) j = getS S j
  | [], _ => rfl
  | v :: vs, h => by
    unfold wipeS
    rw [getS_set_ne (fun z => h (by simp [z])), getS_wipe fun z => h (List.mem_cons_of_mem _ z)]
theorem getS_set_un {S : Sl} {i : Nat} : getS (S.set i .un) i = .un := by
  by_cases hi : i < S.length
  · exact getS_set_self hi
  · unfold getS
    rw [List.getD, List.getElem?_eq_none (by rw [List.length_set]; exact Nat.le_of_not_lt hi)]
    rfl
theorem getS_wipe_in {S : Sl} {j : Nat} : ∀ {vs : List Nat}, j ∈ vs → getS (wipeS S vs) j = .un
  | v :: vs, h => by
    unfold wipeS
    by_cases e : v = j
    · subst e; exact getS_set_un
    · rw [getS_set_ne e]
      exact getS_wipe_in (by rcases List.mem_cons.mp h with z | z <;> first | exact absurd z.symm e | exact z)
theorem wipe_get {σ : Sg} {j : Nat} : ∀ {vs : List Nat}, j ∉ vs → (wipe σ vs)[j]? = σ[j]?
  | [], _ => rfl
  | v :: vs, h => by
    unfold wipe
    rw [List.getElem?_set_ne (fun z => h (by simp [z])), wipe_get fun z => h (List.mem_cons_of_mem _ z)]
theorem wipe_get_in {σ : Sg} {j : Nat} : ∀ {vs : List Nat}, j ∈ vs → (wipe σ vs)[j]? = if j < σ.length then some none else none
  | v :: vs, h => by
    unfold wipe
    by_cases e : v = j
    · subst e
      by_cases hl : v < σ.length
      · rw [if_pos hl, List.getElem?_set_self (by rw [wipe_length]; exact hl)]
      · rw [if_neg hl, List.getElem?_eq_none (by rw [List.length_set, wipe_length]; exact Nat.le_of_not_lt hl)]
    · rw [List.getElem?_set_ne e]
      exact wipe_get_in (by rcases List.mem_cons.mp h with z | z <;> first | exact absurd z.symm e | exact z)
theorem wipe_eq {σ σ2 : Sg} {vs : List Nat} (hl : σ2.length = σ.length) (h : ∀ j, j ∉ vs → σ2[j]? = (wipe σ vs)[j]?) : wipe σ2 vs = wipe σ vs := by
  refine List.ext_getElem? fun j => ?_
  by_cases hj : j ∈ vs
  · rw [wipe_get_in hj, wipe_get_in hj, hl]
  · rw [wipe_get hj, h j hj]
theorem wipeS_length (S : Sl) : ∀ vs : List Nat, (wipeS S vs).length = S.length
  | [] => rfl
  | v :: vs => by unfold wipeS; rw [List.length_set, wipeS_length S vs]
theorem Rep.wipe {F H : Hp} {S : Sl} {σ : Sg} (r : Rep c F S σ H) (vs : List Nat) : Rep c F (wipeS S vs) (L2.wipe σ vs) H := by
  refine ⟨r.amb0, r.amb, r.keep, r.fz, r.gr, fun j => ?_, fun i j p a1 a2 => ?_, by rw [wipeS_length, wipe_length]; exact r.len⟩
  · by_cases hj : j ∈ vs
    · rw [getS_wipe_in hj]; trivial
    · rw [getS_wipe hj, wipe_get hj]; exact r.slot j
  · have back : ∀ l, OwnAt (wipeS S vs) (L2.wipe σ vs) l p → OwnAt S σ l p := fun l ⟨h, e⟩ => by
      have hl : l ∉ vs := fun z => by
        rw [getS_wipe_in z] at h
        rcases h with ⟨_, q⟩ | ⟨_, q⟩ | ⟨_, q⟩ <;> cases q
      rw [getS_wipe hl] at h
      rw [wipe_get hl] at e
      exact ⟨h, e⟩
    exact r.apart i j p (back i a1) (back j a2)
theorem shared_not {S : Sl} {vs : List Nat} {j : Nat} (h : (vs.all fun v => (getS S v).shared) = true) (ho : (∃ xs, getS S j = .own xs) ∨ (∃ k, getS S j = .ownI k) ∨ ∃ k, getS S j = .ownT k) : j ∉ vs := fun hj => by
  have q := List.all_eq_true.mp h j hj
  rcases ho with ⟨_, z⟩ | ⟨_, z⟩ | ⟨_, z⟩ <;> (rw [z] at q; cases q)
/-- out of a block again -/
theorem Rep.back {F F' H H' : Hp} {S S2 : Sl} {σ σ2 : Sg} {vs : List Nat} (r : Rep c F S σ H) (n : Nx c.pr S2 σ2 F H S2 F' H') (r' : Rep c F' S2 σ2 H') (hS : wipeS S2 vs = wipeS S vs) (h2 : (vs.all fun v => (getS S2 v).shared) = true) (hσ : ∀ j, j ∉ vs → σ2[j]? = σ[j]?)
    (h1 : (vs.all fun v => (getS S v).shared) = true) : Rep c F' S σ H' ∧ Nx c.pr S σ F H S F' H' := by
  have gs : ∀ j, j ∉ vs → getS S2 j = getS S j := fun j hj => by rw [← getS_wipe (S := S2) hj, hS, getS_wipe hj]
  refine ⟨⟨r.amb0, r'.amb, r'.keep, r'.fz, r'.gr, fun j => ?_, r.apart, r.len⟩, ⟨n.le, fun b o h nn t w => n.kp b o h nn t fun ⟨j, ho, e⟩ => ?_, n.dom, fun a ha => ?_, fun _ h => h⟩⟩
  · have q := r.slot j
    cases e : getS S j with
    | un => trivial
    | dat d => rw [e] at q; obtain ⟨v, e1, q⟩ := q; exact ⟨v, e1, Rv.mono n.le _ _ q⟩
    | own ds =>
      have hj := shared_not h1 (.inl ⟨_, e⟩)
      have q' := r'.slot j
      rw [gs j hj, e, hσ j hj] at q'
      exact q'
    | ownI ds =>
      have hj := shared_not h1 (.inr (.inl ⟨_, e⟩))
      have q' := r'.slot j
      rw [gs j hj, e, hσ j hj] at q'
      exact q'
    | ownT ds =>
      have hj := shared_not h1 (.inr (.inr ⟨_, e⟩))
      have q' := r'.slot j
      rw [gs j hj, e, hσ j hj] at q'
      exact q'
  · have hj := shared_not h2 ho
    exact w ⟨j, by rw [← gs j hj]; exact ho, by rw [← hσ j hj]; exact e⟩
  · rcases n.new a ha with z | z | ⟨j, ho, e⟩
    · exact .inl z
    · exact .inr (.inl z)
    · have hj := shared_not h2 ho
      exact .inr (.inr ⟨j, by rw [← gs j hj]; exact ho, by rw [← hσ j hj]; exact e⟩)
/-- a list of ours, held by nobody, is written -/
theorem Rep.updFree {F H : Hp} {S : Sl} {σ : Sg} {p : Addr} {vs ws : List V} (r : Rep c F S σ H) (h : H p = some (.lst vs)) (n1 : F p = none) (n2 : Nn c.H0 p) (n3 : p ≠ c.pr) (n4 : ¬ Owned S σ p) : Rep c F S σ (upd H p (.lst ws)) := by
  refine ⟨r.amb0, r.amb.upd h lst_nt (fun q => lst_nc q) n3 (r.neps n2), ⟨fun b o e nn t => ?_, fun b hb => ?_⟩, ⟨fun b o e => ?_, r.fz.npr, r.fz.ntb⟩, r.gr, fun j => ?_, r.apart, r.len⟩
  · have : b ≠ p := fun z => n2 o (by rw [← z]; exact e) t
    rw [upd_ne this]; exact r.keep.kp b o e nn t
  · have : b ≠ p := fun z => by rw [z] at hb; exact hb n2
    obtain ⟨u, e, tt⟩ := nn_ex (r.keep.dom b hb)
    exact not_nn (by rw [upd_ne this]; exact e) tt
  · have : b ≠ p := fun z => by rw [z, n1] at e; cases e
    rw [upd_ne this]; exact r.fz.le _ _ e
  · have q := r.slot j
    have ne : ∀ {p'}, ((∃ xs, getS S j = .own xs) ∨ (∃ k, getS S j = .ownI k) ∨ ∃ k, getS S j = .ownT k) → σ[j]? = some (some (.ref p')) → p' ≠ p := fun {p'} k1 k2 z => n4 ⟨j, k1, by rw [k2, z]⟩
    cases e : getS S j with
    | un => trivial
    | dat d => rw [e] at q; exact q
    | own ds => rw [e] at q; obtain ⟨p', vs, e1, h1, q, m⟩ := q; exact ⟨p', vs, e1, by rw [upd_ne (ne (.inl ⟨_, e⟩) e1)]; exact h1, q, m⟩
    | ownI ds => rw [e] at q; obtain ⟨p', vs, e1, h1, q, m⟩ := q; exact ⟨p', vs, e1, by rw [upd_ne (ne (.inr (.inl ⟨_, e⟩)) e1)]; exact h1, q, m⟩
    | ownT ds => rw [e] at q; obtain ⟨p', vs, e1, h1, q, m⟩ := q; exact ⟨p', vs, e1, by rw [upd_ne (ne (.inr (.inr ⟨_, e⟩)) e1)]; exact h1, q, m⟩
abbrev DTs (X : Cx) (c : Cd) (ifs : List Expr) (t : WTs) : Prop := PTs X ifs (LT c t)
theorem dts_nil : DTs X c [] ts0 := ⟨fun pins s σ H Q I h => pts_nil.run pins s σ H Q I (by
  obtain ⟨F, S, R, rp, h, k⟩ := h
  exact k _ _ _ _ h (.refl ..) rp)⟩
theorem dts_one {t : WT} (h : DT X c e t) : DTs X c [e] t := pts_one h
theorem lc_lift {w : WI} {g : WG} {t : WTs} {te : WE} {vs sl : List Nat} (hsl : ∀ j ∈ sl, j ∈ vs) {σ : Sg} {H : Hp} {Q : VK} (h : LL c (wLc w g t te vs) σ H Q) : tLc (LI c w) (LG c sl g) (LT c t) (LE c te) vs σ H Q := by
  obtain ⟨F, S, R, rp, h, k⟩ := h
  refine ⟨F, S, _, rp, h, fun dep ds S1 J F1 H1 ⟨hdep, hsh, q⟩ n1 r1 wk lz => fun D hD => ?_⟩
  obtain ⟨Good, g1, g2, g3, g4⟩ := wk.ex
  have noD : ¬ Owned S1 σ D := own_ne r1 hD
  have hD0 := h0_none r1 hD
  have hDp := r1.nepr hD
  have hDH : Nn H D := Classical.byContradiction fun z => n1.dom D z (.none hD)
  refine ⟨fun i m Hh => m = ds.length - i ∧ i ≤ ds.length ∧ ∃ F' acc vacc, Rep c F' S1 σ Hh ∧ Nx c.pr S1 σ F1 H1 S1 F' Hh ∧ Hh D = some (.lst vacc) ∧ RvL c.pr F' acc vacc ∧ F' D = none ∧ acc.length ≤ i ∧ lcD (lcStep g t te vs (wipeS S1 vs)) (ds.drop i) (fun r => R (acc ++ r) S1), ⟨ds.length, by omega, by omega, F1, [], [], ?_⟩, ?_⟩
  · obtain ⟨nf, rf⟩ := r1.fresh (o := .lst []) hD
    exact ⟨rf, nf, upd_same, rfl, f_none r1 hD, Nat.zero_le _, q⟩
  · rintro i m Hh ⟨rfl, hi, F', acc, vacc, r', n', hDl, rl, hFD, hal, q⟩
    have gd := g1 F' Hh S1 σ n'.le r' (fun _ _ => ⟨rfl, rfl⟩)
    by_cases hlt : i < ds.length
    · refine .inr ⟨g2 i F' Hh hlt gd, fun Hx => ∃ F' acc vacc, Rep c F' S1 σ Hx ∧ Nx c.pr S1 σ F1 H1 S1 F' Hx ∧ Hx D = some (.lst vacc) ∧ RvL c.pr F' acc vacc ∧ F' D = none ∧ acc.length ≤ i + 1 ∧ lcD (lcStep g t te vs (wipeS S1 vs)) (ds.drop (i + 1)) (fun r => R (acc ++ r) S1), fun Hx hn => ⟨ds.length - (i + 1), by omega, rfl, by omega, hn⟩, fun x H2 y => ?_⟩
      obtain ⟨F2, d, e, l2, gr, fz, rv⟩ := g4 i F' Hh x H2 hlt gd r'.fz (fun a h => r'.nepr h) y
      rw [drop_cons e] at q
      have r2 := r'.grow l2 gr fz
      have n2 := n'.trans (.grow (pr := c.pr) (S := S1) (σ := σ) l2 gr)
      have hD2 := l2 _ _ hDl
      have hF2 : F2 D = none := by
        cases e : F2 D with
        | none => rfl
        | some o =>
          rcases gr.new D (by rw [e]; simp) with z | z
          · exact absurd hFD z
          · exact absurd z (not_nn hDl lst_nt)
      have rl2 := RvL.mono gr.le _ _ rl
      refine ⟨F2, wipeS S1 vs, d, _, r2.wipe vs, rv, q, fun S2 σ2 r3 ag ln ⟨⟨hw, hs2⟩, q⟩ => ⟨?_, F2, S2, _, r3, q, fun b S3 F4 H4 ⟨e3, q⟩ n4 r4 => ?_⟩⟩
      · exact wipe_eq (by rw [ln, wipe_length]) fun j hj => ag j fun z => hj (hsl j z)
      · subst e3
        have hσ : ∀ j, j ∉ vs → σ2[j]? = σ[j]? := fun j hj => by rw [ag j fun z => hj (hsl j z), wipe_get hj]
        have fin : ∀ {F5 H5 : Hp}, Nx c.pr S3 σ2 F2 H2 S3 F5 H5 → Rep c F5 S3 σ2 H5 → Rep c F5 S1 σ H5 ∧ Nx c.pr S1 σ F1 H1 S1 F5 H5 ∧ H5 D = some (.lst vacc) ∧ RvL c.pr F5 acc vacc ∧ F5 D = none := fun {F5 H5} n5 r5 => by
          obtain ⟨rb, nb⟩ := r2.back n5 r5 hw hs2 hσ hsh
          refine ⟨rb, n2.trans nb, nb.kp D _ hD2 hDp lst_nt noD, RvL.mono nb.le _ _ rl2, ?_⟩
          cases e : F5 D with
          | none => rfl
          | some o =>
            rcases nb.new D (by rw [e]; simp) with z | z | z
            · exact absurd hF2 z
            · exact absurd z (not_nn hD2 lst_nt)
            · exact absurd z noD
        cases b with
        | false =>
          obtain ⟨a1, a2, a3, a4, a5⟩ := fin n4 r4
          refine iteF ⟨F4, acc, vacc, a1, a2, a3, a4, a5, by omega, ?_⟩
          have q' := ifF q
          simpa using q'
        | true =>
          refine iteT ⟨F4, S3, _, r4, ifT q, fun z S4 y5 F5 H5 ⟨e4, q5⟩ n5 r5 rz => ?_⟩
          subst e4
          obtain ⟨a1, a2, a3, a4, a5⟩ := fin (n4.trans n5) r5
          refine ⟨vacc, a3, by rw [a4.length]; omega, F5, acc ++ [z], vacc ++ [y5], a1.updFree a3 a5 hD0 hDp noD, ?_, upd_same, a4.append (RvL.one rz), a5, by rw [List.length_append]; simp; omega, ?_⟩
          · refine ⟨a2.le, fun b o h nn tt ww => ?_, fun b hb => ?_, a2.new, a2.own⟩
            · have : b ≠ D := fun z => by rw [z, hD] at h; cases h
              rw [upd_ne this]; exact a2.kp b o h nn tt ww
            · have : b ≠ D := fun z => by rw [z] at hb; exact hb (.none hD)
              obtain ⟨u, e, tt⟩ := nn_ex (a2.dom b hb)
              exact not_nn (by rw [upd_ne this]; exact e) tt
          · simpa using q5
    · have e : i = ds.length := by omega
      subst e
      rw [List.drop_length] at q
      have q' : R (acc ++ []) S1 := q
      rw [List.append_nil] at q'
      exact .inl ⟨g3 F' Hh gd, k acc S1 D F' Hh q' (n1.trans n') r' ⟨vacc, hDl, rl, hFD, hDH, hD0, hDp, noD⟩⟩
theorem dl_lc {elt iter : Expr} {ifs : List Expr} {scope : Scope} {own : List (Str × Nat)} {w : WI} {g : WG} {t : WTs} {te : WE} {sl : List Nat} (B : Ctx X c EX k) (hi : DI X c tg iter w) (ok : BlkOk X.N X.env.scope scope own)
    (hg : ∀ (s : Shared) (H : Hp) (C : Addr) (cl : List (Str × Addr)) (fp : List Addr), DG (X.blk s H scope (compEnvC scope cl C X.env) fp) c sl tg g) (ht : ∀ (s : Shared) (H : Hp) (C : Addr) (cl : List (Str × Addr)) (fp : List Addr), DTs (X.blk s H scope (compEnvC scope cl C X.env) fp) c ifs t)
    (he : ∀ (s : Shared) (H : Hp) (C : Addr) (cl : List (Str × Addr)) (fp : List Addr), DE (X.blk s H scope (compEnvC scope cl C X.env) fp) c elt te) (hsl : ∀ j ∈ sl, j ∈ own.map (·.2) := by decide) (hs : ∀ x, foldedSetIterable iter X.env x = pure x := by intro _; rfl) :
    DFr X c (.ListComp elt [⟨tg, iter, ifs, 0⟩] scope pos) (wLc w g t te (own.map (·.2))) := (pe_lc B.calm B.nd hi ok hg ht he hs).imp fun _ _ _ => lc_lift hsl
/-- name = [..] -/
theorem s_setLc {i : Nat} {y : Str} {py spos : Pos} {elt iter : Expr} {ifs : List Expr} {scope : Scope} {own : List (Str × Nat)} {w : WI} {g : WG} {t : WTs} {te : WE} {sl : List Nat} (n : Bool) (B : Ctx X c EX k) (hy : X.N[i]? = some y) (hyl : X.env.scope.names.lookup y = some .local)
    (hsw : swapsWith (.ListComp elt [⟨tg, iter, ifs, 0⟩] scope pos) (some (.Name y py)) spos.line X.env = pure true) (hi : DI X c tg iter w) (ok : BlkOk X.N X.env.scope scope own)
    (hg : ∀ (s : Shared) (H : Hp) (C : Addr) (cl : List (Str × Addr)) (fp : List Addr), DG (X.blk s H scope (compEnvC scope cl C X.env) fp) c sl tg g) (ht : ∀ (s : Shared) (H : Hp) (C : Addr) (cl : List (Str × Addr)) (fp : List Addr), DTs (X.blk s H scope (compEnvC scope cl C X.env) fp) c ifs t)
    (he : ∀ (s : Shared) (H : Hp) (C : Addr) (cl : List (Str × Addr)) (fp : List Addr), DE (X.blk s H scope (compEnvC scope cl C X.env) fp) c elt te) (hsl : ∀ j ∈ sl, j ∈ own.map (·.2) := by decide) (hs : ∀ x, foldedSetIterable iter X.env x = pure x := by intro _; rfl) :
    DSt X c (.Assign [.Name y py] (.ListComp elt [⟨tg, iter, ifs, 0⟩] scope pos) spos) (sSet i (if n = true then wNo (wLc w g t te (own.map (·.2))) else wNd (wFz (wLc w g t te (own.map (·.2)))))) := (ps_setLc B.calm B.nd hy hyl hsw hi ok hg ht he hs).imp fun D σ H h => by
  obtain ⟨F, S, E, r, h, k⟩ := h
  refine lc_lift (c := c) hsl (Q := fun x H1 => gName i x σ H1 D.nx) ?_
  cases n with
  | true =>
    refine ⟨F, S, _, r, h, fun ds S1 p F1 H1 q n1 r1 nl => ?_⟩
    obtain ⟨vs, h1, rl, n2, n3, n4, n5, n6⟩ := nl
    exact k.nx F1 _ _ H1 n1.le (r1.setN (x := .own ds) (H0 := H) ⟨⟨p, vs, rfl, h1, rl, n2, n4, n5⟩, fun p' e => by cases e; exact ⟨n3, n6⟩⟩) q
  | false =>
    refine ⟨F, S, _, r, h, fun ds S1 p F1 H1 q n1 r1 nl => ?_⟩
    obtain ⟨F2, n2, r2, rv⟩ := r1.shareF n1 nl
    exact k.nx F2 _ _ H1 n2.le (r2.setN (x := .dat (.lst ds)) (H0 := H) ⟨⟨_, rfl, rv⟩, trivial⟩) q
end
end DL

set_option Elab.async false
set_option linter.all false
set_option maxRecDepth 100000
set_option maxHeartbeats 4000000
/-! A def's body keeps its promise. -/
namespace DL
open PySem PySem.Spec PyProof.Rows L2
theorem getS_start {N : List Str} {ds : List D} {i : Nat} : getS (startD N ds) i = match ds[i]? with | some d => .dat d | none => .un := by
  unfold getS startD
  rw [List.getD]
  by_cases hi : i < ds.length
  · rw [List.getElem?_append_left (by simpa using hi), List.getElem?_map, List.getElem?_eq_getElem hi]
    rfl
  · rw [List.getElem?_append_right (by simpa using Nat.le_of_not_lt hi), List.getElem?_replicate, List.getElem?_eq_none (Nat.le_of_not_lt hi)]
    split <;> rfl
theorem rep_start {K : PySem.W.Frag} {T : List (Addr × Str)} {CB pr ps : Addr} {xs : List Int} {F H : Hp} {N : List Str} {ds : List D} {vs : List V} (am : Amb K T pr ps xs H) (fz : Fz pr F H) (rl : RvL pr F ds vs) : Rep ⟨K, T, CB, pr, ps, xs, H, F⟩ F (startD N ds) (L2.start N vs) H := by
  have no : ∀ i p, ¬ OwnAt (startD N ds) (L2.start N vs) i p := fun i p ⟨h, _⟩ => by
    rw [getS_start] at h
    cases e : ds[i]? with
    | none => rw [e] at h; rcases h with ⟨_, z⟩ | ⟨_, z⟩ | ⟨_, z⟩ <;> cases z
    | some d => rw [e] at h; rcases h with ⟨_, z⟩ | ⟨_, z⟩ | ⟨_, z⟩ <;> cases z
  refine ⟨am, am, .refl _ _, fz, .refl _ _, fun i => ?_, fun i j p h => absurd h (no i p), ?_⟩
  · rw [getS_start]
    cases e : ds[i]? with
    | none => trivial
    | some d =>
      obtain ⟨v, h1, h2⟩ := rl.get e
      refine ⟨v, ?_, h2⟩
      unfold L2.start
      obtain ⟨hi, _⟩ := List.getElem?_eq_some_iff.mp h1
      rw [List.getElem?_append_left (by simpa using hi), List.getElem?_map, h1]
      rfl
  · unfold startD L2.start
    simp [rl.length]
section
variable {P : Program} {w : World} {K : PySem.W.Frag} {mg : Str → Option Value} {base : Heap} {T : List (Addr × Str)} {CB : Addr}
theorem callee_mk {x : Str} {st : Stmt} {f : Addr} {fd : FuncData} {N ps : List Str} {k : Nat} {s : DSp} {t : (Str → Prop) → WS} (F : Fun K x x st f fd) (S : FnScope N ps (defScope st)) (hm : mg x = some (.ref f)) (hb : Binds K fd ps []) (len : ∀ ds Q E, s ds Q E → ds.length = ps.length)
    (hbody : ∀ (cdv : Value) (A : Around) (outer : List Env) (s0 : Shared) (H : Hp) (E : XK) (c : Cd) (EX : Str → Prop), Ctx (cxOf (L2.CX P w) P w K mg base N x (defScope st) f cdv A outer s0 H E) c EX k →
      PassesOwn (model P w) (cxOf (L2.CX P w) P w K mg base N x (defScope st) f cdv A outer s0 H E).A (cxOf (L2.CX P w) P w K mg base N x (defScope st) f cdv A outer s0 H E).env (cxOf (L2.CX P w) P w K mg base N x (defScope st) f cdv A outer s0 H E).xe → c.T = T → c.CB = CB →
      DSts (cxOf (L2.CX P w) P w K mg base N x (defScope st) f cdv A outer s0 H E) c (defBody st) (t EX))
    (hpure : ∀ ds Q EX, s ds Q EX → t EX { nx := fun _ => Q .non, rt := Q } (startD N ds)) : Callee P w K mg base T CB x (k + 1) ps s := by
  refine ⟨f, fd, F.okX S (fun vs H Q E ⟨pr, p2, xs, F, ds, R0, E0, am, fz, rl, h, _⟩ => by rw [rl.length]; exact len _ _ _ h) (fun cdv A outer s0 H vs Q E hr ⟨pr, p2, xs, F, ds, R0, E0, am, fz, rl, h, kq, ke⟩ => ?_), hm, F.kp, hb, by obtain ⟨oc, od, kV, doc, pm, an, cdv, ct, osl, rfl, lk, _⟩ := F.ex; exact ⟨_, _, _, lk⟩⟩
  have B : Ctx (cxOf (L2.CX P w) P w K mg base N x (defScope st) f cdv A outer s0 H E) ⟨K, T, CB, pr, p2, xs, H, F⟩ E0 k :=
    ⟨rfl, rfl, S.nd, hr, Takes.imp (W := fun cls d _ H' => E cls d H') (takes_of rfl rfl rfl rfl) fun cls d _ H' ⟨nm, dd, e1, e2, e3, e4, e5, e6⟩ => by subst e1 e2; exact ke nm dd H' e6 e4 e5 e3⟩
  refine ⟨_, hbody cdv A outer s0 H E _ E0 B (passes_of rfl) rfl rfl, ?_⟩
  refine ⟨F, startD N ds, _, rep_start am fz rl, hpure ds R0 E0 h, ⟨fun F' S' σ' H' _ r q => kq .non .non F' H' q r.keep r.amb r.fz r.gr rfl, fun F' d v H' kp am z g q rv => kq d v F' H' q kp am z g rv, fun _ _ _ _ _ _ q => q.elim, fun _ _ _ _ _ _ q => q.elim⟩⟩
theorem Callee.mono {x : Str} {j k : Nat} {ps : List Str} {s s' : DSp} (G : Callee P w K mg base T CB x j ps s) (h : j ≤ k) : Callee P w K mg base T CB x k ps s := by
  obtain ⟨f, fd, F, a, b, d⟩ := G.ex
  exact ⟨f, fd, F.mono h, a, b, d⟩
end
section
variable {X : Cx} {c : Cd} {pos : Pos}
theorem dv (i : Nat) {x : Str} (hN : X.N[i]? = some x := by rfl) (hv : Vis X.env.scope x := by first | exact Or.inl rfl | exact Or.inr (Or.inl rfl) | exact Or.inr (Or.inr rfl)) (hd : (x == ("__debug__" : Str)) = false := by decide) (hcd : (x == ("__classdict__" : Str)) = false := by decide) : DE X c (.Name x pos) (wVar i) := de_var hN hv hd hcd
theorem ds (i : Nat) {x : Str} (hN : X.N[i]? = some x := by rfl) (hv : Vis X.env.scope x := by first | exact Or.inl rfl | exact Or.inr (Or.inl rfl) | exact Or.inr (Or.inr rfl)) (hd : (x == ("__debug__" : Str)) = false := by decide) (hcd : (x == ("__classdict__" : Str)) = false := by decide) : DS X c (.Name x pos) (wSlot i) := ds_slot hN hv hd hcd
theorem gn (i : Nat) {x : Str} (hN : X.N.Nodup) (hi : X.N[i]? = some x := by rfl) (hx : Loc X.env.scope x := by first | exact Or.inl rfl | exact Or.inr rfl) (hf : X.fn x = true ∨ X.env.scope.names.lookup x = some .local := by first | exact .inl rfl | exact .inr rfl) : DG X c [i] (.Name x pos) (bName i) := g_name hN hi hx hf
theorem blk {N : List Str} {sc scope : Scope} {own : List (Str × Nat)} (h : blkC N sc scope own = true := by first | rfl | kernel_rfl) : BlkOk N sc scope own := blkOk_by h
theorem s_sv (i : Nat) {EX : Str → Prop} {k : Nat} {e : Expr} {x : Str} {pos' : Pos} {t : WN} (B : Ctx X c EX k) (he : DN X c e t) (hi : X.N[i]? = some x := by rfl) (hx : Loc X.env.scope x := by first | exact Or.inl rfl | exact Or.inr rfl) (hs : swapsWith e (some (.Name x pos')) pos.line X.env = pure false := by rfl) (hf : X.fn x = true ∨ X.env.scope.names.lookup x = some .local := by first | exact .inl rfl | exact .inr rfl) :
    DSt X c (.Assign [.Name x pos'] e pos) (sSet i t) := s_set hi hx he B hs hf
theorem s_pp (i : Nat) {EX : Str → Prop} {k : Nat} {e : Expr} {x : Str} {pos' : Pos} {t : WE} (B : Ctx X c EX k) (he : DE X c e t) (hi : X.N[i]? = some x := by rfl) (hx : Loc X.env.scope x := by first | exact Or.inl rfl | exact Or.inr rfl) (hf : X.fn x = true ∨ X.env.scope.names.lookup x = some .local := by first | exact .inl rfl | exact .inr rfl) :
    DSt X c (.AugAssign (.Name x pos') .Add e pos) (sAug' i addI t) := s_aug io_add hi hx he B hf
end
/-- built-in names stand for built-ins -/
structure Blt (mg : Str → Option Value) : Prop where
  abs : mg "abs" = none
  all : mg "all" = none
  any : mg "any" = none
  bool : mg "bool" = none
  dict : mg "dict" = none
  enumerate : mg "enumerate" = none
  int : mg "int" = none
  isinstance : mg "isinstance" = none
  len : mg "len" = none
  list : mg "list" = none
  max : mg "max" = none
  min : mg "min" = none
  range : mg "range" = none
  set : mg "set" = none
  sorted : mg "sorted" = none
  str : mg "str" = none
  sum : mg "sum" = none
  tuple : mg "tuple" = none
  zip : mg "zip" = none
end DL

set_option Elab.async false
set_option linter.all false
set_option maxRecDepth 100000
set_option maxHeartbeats 4000000
/-! The error with an __init__ of its own: the block of skel/42, turned to BadArgument. -/
namespace PySem
namespace LowX
open PySem.W PySem.Calls PyProof.Rows PySem.HandSPX
/-! ### the text of __init__ -/
def iA (p1 p2 : Pos) : Arguments := { posonlyargs := [], args := [{ arg := "self", annotation := none, pos := p1 }, { arg := "name", annotation := none, pos := p2 }], vararg := none, kwonlyargs := [], kw_defaults := [], kwarg := none, defaults := [] }
def iB (q1 q2 q3 q4 : Pos) : List Stmt := [.Assign [.Attribute (.Name "self" q1) "name" q2] (.Name "name" q3) q4]
def iS : Scope := { kind := .function, names := [(PySem.Str.ofString "self", .local), (PySem.Str.ofString "name", .local)], isGenerator := false, isCoroutine := false, more := [] }
/-- what the written part says of Low, at C, and of its __init__, at fI -/
structure LowTxt (K : Frag) (mg : Str → Option Value) (C fI : Addr) : Prop where
  gC : mg "BadArgument" = some (.ref C)
  cls : ∃ nm q N bs bm sn sub ab col dd k0 k1 k2 k3 k5, K.lookup C = some (excClassObj nm q C N bs bm true sn sub ab col dd k0 k1 k2 k3 k5 "ValueError.__new__") ∧ refsVE bm = true
  sa : findIn K (.ref C) "__setattr__" = some (some (.builtin "object.__setattr__"))
  ga : findIn K (.ref C) "__getattribute__" = some (some (.builtin "BaseException.__getattribute__"))
  gg : findIn K (.ref C) "__getattr__" = some none
  noN : findIn K (.ref C) "name" = some none
  iC : findIn K (.ref C) "__init__" = some (some (.ref fI))
  tC : typeIn K (.ref fI) = some (.type "function")
  kC : keepIn K (.ref C) = true
  exC : subIn K (.ref C) (.type "BaseException") = some true
  tyC : typeIn K (.ref C) = some (.type "type")
  hdC : hasDictIn K C = true
  te : exmOne K (.ref C) (.ref C) = some true
  fn : ∃ (oc : Value) (od : Option Addr) (kV doc pm : Value) (an : Option Addr) (cdv ct : Value) (osl : Array (Option Value)) (p1 p2 q1 q2 q3 q4 : Pos),
    K.lookup fI = some ⟨oc, od, .func (fnOf "__init__" "BadArgument.__init__" (iA p1 p2) (iB q1 q2 q3 q4) iS .none kV doc pm an cdv ct), osl⟩ ∧ codeIn K cdv "BadArgument.__init__" = true
theorem one_size (v : Value) : [v].length ≤ sizeLine := by
  rw [sizeLine_eq]
  exact (by decide : 1 ≤ 16777216)
theorem kept_but {K : Frag} {h h' : Heap} {x : Addr} (X : K.In h) (hx : K.lookup x = none) (k : ∀ b o, b ≠ x → h.get? b = some o → h'.get? b = some o) : K.In h' := fun a o e =>
  k a o (fun z => by rw [z, hx] at e; cases e) (X a o e)
theorem ldC {M : Model} {s : Shared} {name : Str} {scope : Scope} {L a : Addr} {cd : Value} {m : Str → Option Value} {x : Str} {pos : Pos} {v : Value} {Q : Value → Shared → Prop} {A : Around} {E : Value → Shared → Prop} (hn : s.heap.Ns L m) (hv : m x = some v) (h : Q v s)
    (hk : scope.kind = .function := by rfl) (hl : (envOfC name scope L a cd).kindOf x = some .local := by rfl) (hd : (x == ("__debug__" : Str)) = false := by decide) :
    wpAny M A (eval (.Name x pos) (envOfC name scope L a cd)) Q E s := wpAny_Name (wpAny_loadName_local hk hl hn hv h) hd
/-- what __init__ leaves of a fresh exception at x -/
structure InitEnd (h h' : Heap) (x C dx t1 : Addr) (v : Value) : Prop where
  keep : ∀ b o, b ≠ x → h.get? b = some o → h'.get? b = some o
  obj : h'.get? x = some { cls := .ref C, dict := some dx, data := .fields #[.ref t1, .none, .none, .none, .bool false, .none] }
  dbig : h.objs.size ≤ dx
  dne : dx ≠ x
  ns : h'.Ns1 dx (fun y => if y = "name" then some v else none)
/-- a made Low -/
structure OwnMade (h h' : Heap) (e C d : Addr) (v : Value) : Prop where
  keep : ∀ b o, h.get? b = some o → h'.get? b = some o
  new : h.objs.size ≤ e
  obj : ∃ oe vs, h'.get? e = some oe ∧ oe.cls = .ref C ∧ oe.dict = some d ∧ oe.data = .fields vs ∧ vs[1]? = some .none
  dbig : h.objs.size ≤ d
  dne : d ≠ e
  ns : h'.Ns1 d (fun y => if y = "name" then some v else none)
section
variable {prog : Program} {w : World} {A : Around} {E : Value → Shared → Prop} {R : Result → Shared → Prop} {s : Shared} {K : Frag} {mg : Str → Option Value} {C fI : Addr}
theorem low_init (T : LowTxt K mg C fI) {x t0 : Addr} {v : Value} (X : K.In s.heap) (hlim : s.heap.NoLimit) (hx : s.heap.get? x = some (excO C t0)) (hnx : K.lookup x = none) (hroom : A.depth < recursionLimit)
    (hq : ∀ h' tk dx, InitEnd s.heap h' x C dx t0 v → R (.ok (.ret .none)) { s with heap := h', toks := tk }) :
    codeAny (model prog w) A (.call (.ref fI) ⟨[.ref x, v], []⟩) R s := by
  obtain ⟨oc, od, kV, doc, pm, an, cdv, ct, osl, p1, p2, q1, q2, q3, q4, ho, hcd⟩ := T.fn
  obtain ⟨nm, q, N, bs, bm, sn, sub, ab, col, dd, k0, k1, k2, k3, k5, hC, hbm⟩ := T.cls
  have hcl : clsIn K C = some { name := nm, bases := bs, mro := .ref C :: bm, ns := N, qualname := q, hasDict := true, slotNames := sn, subclasses := sub, abstract := ab, collection := col, hasDel := false } := by unfold clsIn; rw [hC] <;> rfl
  refine Att.call_fn (binds := [("self", .ref x), ("name", v)]) X hlim ho hcd hroom (BindsTo.of_eq (by first | rfl | with_unfolding_all rfl)) (by first | rfl | decide | with_unfolding_all rfl) (fun s₁ IC => ?_) rfl rfl rfl
  obtain ⟨h₁, tk₁, rfl⟩ := IC.toInCall.same
  have k : ∀ b o, s.heap.get? b = some o → h₁.get? b = some o := IC.toInCall.keep
  have hn := IC.toInCall.ns
  have hxL : s.heap.objs.size ≠ x := Nat.ne_of_gt (Heap.lt_size hx)
  have X₁ : K.In h₁ := X.keeps k
  have hx₁ := k _ _ hx
  -- self.by = by
  show wpAny _ _ (execs _ _) _ _ _
  refine wpAny_execs_cons (plainObj_wpAny_Assign_Attribute ?_)
  refine ldC (v := v) hn (by first | rfl | with_unfolding_all rfl | kernel_rfl) (ldC (v := .ref x) hn (by first | rfl | with_unfolding_all rfl | kernel_rfl) ?_)
  refine set_plain X₁ (ox := excO C t0) (od := none) ⟨hx₁, rfl, rfl, trivial⟩ T.sa ?_
  refine exc_osa X₁ hx₁ hcl (show refsVE (.ref C :: bm) = true from hbm) rfl T.noN (fun h₃ tk₃ dx k₃ dn dne hx₃ hn₃ => ?_)
  show wpAny _ _ (execs _ _) _ _ _
  have z : s.heap.objs.size < h₁.objs.size := hn.lt
  exact wpAny_execs_nil (hq h₃ tk₃ dx ⟨fun b o hb e => k₃ b o hb (k b o e), hx₃, Nat.le_of_lt (Nat.lt_of_lt_of_le z dn), dne, hn₃⟩)
theorem low_made (T : LowTxt K mg C fI) {v : Value} (X : K.In s.heap) (hlim : s.heap.NoLimit) (hroom : A.depth + 1 < recursionLimit)
    (hq : ∀ h' tk e d, OwnMade s.heap h' e C d v → R (.ok (.ret (.ref e))) { s with heap := h', toks := tk }) :
    codeAny (model prog w) A (.call (.ref C) ⟨[v], []⟩) R s := by
  obtain ⟨nm, q, N, bs, bm, sn, sub, ab, col, dd, k0, k1, k2, k3, k5, hC, hbm⟩ := T.cls
  obtain ⟨hp, g, dr, tk, os⟩ := s
  have k : ∀ b o, hp.get? b = some o → ((hp.push (kdv_tup [v])).push (excO C hp.objs.size)).get? b = some o := fun b o e => Heap.get?_push_of_some _ (Heap.get?_push_of_some _ e)
  have hget : ((hp.push (kdv_tup [v])).push (excO C hp.objs.size)).get? (hp.objs.size + 1) = some (excO C hp.objs.size) := by heap_get
  have hnx : K.lookup (hp.objs.size + 1) = none := by
    cases e : K.lookup (hp.objs.size + 1) with
    | none => rfl
    | some o =>
      have z : hp.get? (hp.objs.size + 1) = some o := X _ _ e
      exact absurd (Nat.lt_of_succ_lt (Heap.lt_size z)) (Nat.lt_irrefl _)
  refine call_own F.excBase_ValueError (fun X => refsVE_contains X bm hbm) (X _ _ hC) (looks_findIn X T.iC) (fun self => bind_fn X self T.tC) (one_size v) ?_
  refine low_init (s := ⟨(hp.push (kdv_tup [v])).push (excO C hp.objs.size), g, dr, tk, os⟩) T (X.keeps k) (hlim.keeps k) hget hnx ?_ fun h' tk' dx ⟨k', hx, dn, dne, hns⟩ => ?_
  · show A.depth + 1 < recursionLimit
    exact hroom
  · have old : ∀ b o, hp.get? b = some o → h'.get? b = some o := fun b o e => k' b o (Nat.ne_of_lt (Nat.lt_succ_of_lt (Heap.lt_size e))) (k b o e)
    have z : hp.objs.size + 1 + 1 ≤ dx := by
      first
        | (simpa only [Heap.size_push] using dn)
        | exact dn
        | (have q := dn; rw [Heap.size_push, Heap.size_push] at q; exact q)
    exact ⟨rfl, hq h' tk' (hp.objs.size + 1) dx ⟨old, Nat.le_succ _, ⟨_, _, hx, rfl, rfl, rfl, rfl⟩, Nat.le_trans (Nat.le_trans (Nat.le_succ _) (Nat.le_succ _)) z, dne, hns⟩⟩
end
end LowX
end PySem
namespace L2
open PySem PySem.Spec PyProof.Rows
theorem relO_low {v : V} {v' : Value} (r : RelV v v') (f : Str) : RelO (List.lookup f [(("name" : Str), v)]) (if f = "name" then some v' else none) := by
  by_cases hw : f = "name"
  · subst hw
    rw [if_pos rfl]
    have q : List.lookup ("name" : Str) [(("name" : Str), v)] = some v := by simp [List.lookup]
    rw [q]
    exact r
  · rw [if_neg hw]
    have qw : (f == ("name" : Str)) = false := by simpa using hw
    have q2 : List.lookup f [(("name" : Str), v)] = none := by simp [List.lookup, qw]
    rw [q2]
    trivial
section
variable {X : Cx} {C fI : Addr}
/-- Low(e) -/
def tMkLow (C : Addr) (ta : TA) : St → Hp → XK → Prop := fun σ H Q => ta σ H fun vs H1 => ∃ v, vs = [v] ∧ ∀ d, H1 d = none → Q (.ref C) (some d) (upd H1 d (.xd [(("name" : Str), v)]))
theorem pmk_low {a : Expr} {ta : TA} {p pos : Pos} {k : Nat} (T : PySem.LowX.LowTxt X.K X.mg C fI) (hr : Room k X.A) (ha : PA X [a] ta) (hg : Gl X "BadArgument" := by rfl)
    (he : starEach (a :: []) X.env = (false, eval a X.env) :: starEach [] X.env := by rfl) (hpl : (backTo pos (starEach [] X.env)).any (·.1) = false := by rfl) :
    PMk X (.Call (.Name "BadArgument" p) [a] [] pos) (tMkLow C ta) := by
  intro pins s σ H Q I h
  refine wpAny_Call_Name_kw (ld_glob I hg T.gC ?_)
  refine PySem.W.callWith_K (h₀ := X.base) I.ok.mod.kin T.kC (thn (ha.run pos pins s σ H _ I h) fun us s1 hh => ?_) he hpl
  obtain ⟨vs, H1, I1, r1, v, ev, q1⟩ := hh
  subst ev
  refine ⟨I1.kIn, ?_⟩
  cases r1 with
  | cons rv rn =>
    rename_i v' us'
    cases rn
    show wpAny _ _ (call (.ref C) [v']) _ _ _
    have hlim := I1.nolimit
    obtain ⟨hp, g, dr, tk, os⟩ := s1
    refine wpAny_call (PySem.LowX.low_made T I1.kIn hlim (by have := hr.dp; omega) fun h' tk' e d M => ?_)
    show MkP X pins σ Q (.ref e) ⟨h', g, dr, tk', os⟩
    obtain ⟨oe, fv, hoe, hc, hd, hdat, h1⟩ := M.obj
    have hns := M.ns
    obtain ⟨G', g1, g2⟩ := restrict h' fun b => decide (b ≠ e)
    have gk : ∀ b, b ≠ e → G'.get? b = h'.get? b := fun b hb => g1 b (decide_eq_true hb)
    have ge : G'.get? e = none := g2 e (by simp)
    have old : ∀ b o, hp.get? b = some o → G'.get? b = some o := fun b o q => (gk b (Nat.ne_of_lt (Nat.lt_of_lt_of_le (Heap.lt_size q) M.new))).trans (M.keep b o q)
    have ob : ObjOk X.prog X.w (upd H1 d (.xd [(("name" : Str), v)])) G' d (.xd [(("name" : Str), v)]) :=
      ⟨_, hns.at (fun o q => (gk d M.dne).trans q), fun f => relO_low rv f⟩
    have J : Inv X pins σ (upd H1 d (.xd [(("name" : Str), v)])) ⟨G', g, dr, tk', os⟩ := I1.laid (t' := tk') old M.dbig ob
    refine ⟨e, oe, fv, ⟨G', g, dr, tk', os⟩, _, .ref C, some d, rfl, J, fun b o q => ?_, ge, hoe, ⟨hc, hd⟩, hdat, h1, ?_, rfl, I1.bare, raises_own T.exC T.tyC, q1 d (I1.hok.fresh M.dbig)⟩
    · by_cases hb : b = e
      · have q' : G'.get? b = some o := q
        rw [hb, ge] at q'; cases q'
      · exact (gk b hb).symm.trans q
    · rw [upd_ne (Ne.symm M.dne)]
      exact I1.hok.fresh M.new
/-- raise Low(e) -/
def tRaiseLow (C : Addr) (W : WX) (ta : TA) : TS := fun _ σ H => tMkLow C ta σ H fun cls d H' => W cls d σ H'
theorem ps_raiseLow {a : Expr} {ta : TA} {W : WX} {p pos pos2 : Pos} {k : Nat} (hc : X.calm = true) (T : PySem.LowX.LowTxt X.K X.mg C fI) (hr : Room k X.A) (tk : Takes X W) (ha : PA X [a] ta) (hg : Gl X "BadArgument" := by rfl)
    (he : starEach (a :: []) X.env = (false, eval a X.env) :: starEach [] X.env := by rfl) (hpl : (backTo pos (starEach [] X.env)).any (·.1) = false := by rfl) :
    PS X (.Raise (some (.Call (.Name "BadArgument" p) [a] [] pos)) none pos2) (tRaiseLow C W ta) := ps_raise hc tk (pmk_low T hr ha hg he hpl)
/-- low.by, low the exception that the suite holds (at a; its class cls, its dict d) -/
def tByLow (C : Addr) (a : Addr) (cls : Value) (d : Option Addr) (te : TE) : TE := fun σ H Q => te σ H fun x H1 => x = .ref a ∧ cls = .ref C ∧ ∃ (dd : Addr) (v : V), d = some dd ∧ H1 dd = some (.xd [(("name" : Str), v)]) ∧ Q v H1
theorem pe_byLow {a : Addr} {oe : Obj} {cls : Value} {d : Option Addr} {pn : List (Addr × Obj)} {e : Expr} {te : TE} {pos : Pos} (T : PySem.LowX.LowTxt X.K X.mg C fI) (hz : Zc cls d oe) (hf : ∃ vs, oe.data = .fields vs) (he : PE (X.suite a ((a, oe) :: pn)) e te)
    (hb : attributeBase e "name" X.env (eval e X.env) = eval e X.env := by rfl) :
    PE (X.suite a ((a, oe) :: pn)) (.Attribute e "name" pos) (tByLow C a cls d te) := by
  refine ⟨fun pins s σ H Q I h => ?_⟩
  refine attr_of hb (thn (he.run pins s σ H _ I h) fun u s1 hh => ?_)
  obtain ⟨x, H1, I1, rx, ex, ec, dd, v, ed, ea, q⟩ := hh
  subst ex
  obtain rfl : u = Value.ref a := rx
  subst ec
  subst ed
  obtain ⟨ha, _⟩ := I1.pin (a, oe) (List.mem_append_left _ List.mem_cons_self)
  obtain ⟨vs, hd⟩ := hf
  have hx : ObjOk X.prog X.w H1 s1.heap dd (.xd [(("name" : Str), v)]) := I1.hok dd _ ea
  obtain ⟨mA, hns, hr⟩ := hx
  obtain ⟨od, ho, hl⟩ := lookIn_ns hns
  have l : List.lookup ("name" : Str) [(("name" : Str), v)] = some v := by simp [List.lookup]
  obtain ⟨u, hu, ru⟩ := RelO.some_of (v := v) (o := mA "name") (by rw [← l]; exact hr "name")
  have J : PySem.W.InstAt s1.heap a oe C (some od) := ⟨ha, hz.1, by unfold PySem.W.notCls; rw [hd] <;> rfl, by rw [hz.2]; exact ho⟩
  exact HandSPX.exc_get I1.kIn J T.ga T.gg T.exC (PySem.W.findObj_own T.hdC T.noN rfl (by rw [hl, hu])) (handed_of ru) ⟨v, H1, I1.tok _, ru, q⟩
end
end L2
namespace DL
open PySem PySem.Spec PyProof.Rows L2
/-- an error of the class at S is what «except S» names -/
theorem exm_self {K : PySem.W.Frag} {S : Addr} (h1 : PySem.W.subIn K (.ref S) (.type "BaseException") = some true) (h2 : PySem.W.isClsIn K S = true) (h3 : PySem.W.typeIn K (.ref S) = some (.type "type")) (h4 : PySem.W.subIn K (.ref S) (.ref S) = some true) :
    PySem.W.exmOne K (.ref S) (.ref S) = some true := by
  have e1 : (PySem.W.subIn K (.ref S) (.type "BaseException") == some true) = true := by rw [h1] <;> rfl
  have e2 : ((PySem.W.clsIn K S).isSome && PySem.W.typeIn K (.ref S) == some (.type "type")) = true := by
    have h2' : (PySem.W.clsIn K S).isSome = true := h2
    rw [h2', h3] <;> rfl
  show (if (PySem.W.subIn K (.ref S) (.type "BaseException") == some true) = true then (if ((PySem.W.clsIn K S).isSome && PySem.W.typeIn K (.ref S) == some (.type "type")) = true then PySem.W.subIn K (.ref S) (.ref S) else none) else none) = some true
  rw [if_pos e1, if_pos e2]
  exact h4
end DL

set_option Elab.async false
set_option linter.all false
/-! Facts for proofs at the data level: each rewrites what is wanted of an operation by its operands. -/
namespace DL
open PySem
def strS (d : D) (k : Str → Prop) : Prop := match d with
  | .str x => k x
  | _ => False
def varS (x : SV) (i : Nat) (S : Sl) (R : D → Sl → Prop) : Prop :=
  match x with
  | .dat d => R d S
  | .own xs => R (.lst xs) (S.set i (.dat (.lst xs)))
  | .ownI k => R (.dI k) (S.set i (.dat (.dI k)))
  | .ownT k => R (.dT k) (S.set i (.dat (.dT k)))
  | .un => False
def slotS (x : Option D) (i : Nat) (S : Sl) (R : Src → Sl → Prop) : Prop :=
  match x with
  | some _ => R (.slot i) S
  | none => False
def blS (d : D) (k : Bool → Prop) : Prop := match d with
  | .bl b => k b
  | _ => False
def augS (x : SV) (k : D → Prop) : Prop := match x with
  | .dat d => k d
  | _ => False
theorem addW_i (i j : Int) (k : D → Prop) : (addW (.int i) (.int j) k) = k (.int (i + j)) := rfl
theorem addW_t (a b : List D) (k : D → Prop) : (addW (.tup a) (.tup b) k) = (a.length + b.length ≤ 1000000 ∧ k (.tup (a ++ b))) := rfl
theorem catW_l (a b : List D) (k : List D → Prop) : (catW (.lst a) (.lst b) k) = (a.length + b.length ≤ 1000000 ∧ k (a ++ b)) := rfl
theorem addI_i (i j : Int) (k : D → Prop) : (addI (.int i) (.int j) k) = k (.int (i + j)) := rfl
theorem subW_i (i j : Int) (k : D → Prop) : (subW (.int i) (.int j) k) = k (.int (i - j)) := rfl
theorem mulW_i (i j : Int) (k : D → Prop) : (mulW (.int i) (.int j) k) = (MulOk i j ∧ k (.int (i * j))) := rfl
theorem mulW_t (a : List D) (j : Int) (k : D → Prop) : (mulW (.tup a) (.int j) k) = (a.length ≤ 1000 ∧ a ≠ [] ∧ 2 ≤ j ∧ j ≤ 1000 ∧ k (.tup (List.replicate j.toNat a).flatten)) := rfl
theorem repW_l (a : List D) (j : Int) (k : List D → Prop) : (repW (.lst a) (.int j) k) = (a.length ≤ 1000 ∧ -1000 ≤ j ∧ j ≤ 1000 ∧ k (List.replicate j.toNat a).flatten) := rfl
theorem fdivW_i (i j : Int) (k : D → Prop) : (fdivW (.int i) (.int j) k) = ((0 < j ∧ j < 2 ^ 256) ∧ k (.int (i / j))) := rfl
theorem modW_i (i j : Int) (k : D → Prop) : (modW (.int i) (.int j) k) = (0 < j ∧ k (.int (i % j))) := rfl
theorem shlW_i (i j : Int) (k : D → Prop) : (shlW (.int i) (.int j) k) = ((0 ≤ j ∧ j ≤ 1000 ∧ -1000000 ≤ i ∧ i ≤ 1000000) ∧ k (.int (i * 2 ^ j.toNat))) := rfl
theorem shrW_i (i j : Int) (k : D → Prop) : (shrW (.int i) (.int j) k) = (0 ≤ j ∧ k (.int (i / 2 ^ j.toNat))) := rfl
theorem andW_i (i j : Int) (k : D → Prop) : (andW (.int i) (.int j) k) = k (.int (Builtin.bitAnd i j)) := rfl
theorem orW_i (i j : Int) (k : D → Prop) : (orW (.int i) (.int j) k) = k (.int (Builtin.bitOr i j)) := rfl
theorem xorW_i (i j : Int) (k : D → Prop) : (xorW (.int i) (.int j) k) = k (.int (Builtin.bitXor i j)) := rfl
theorem negW_i (i : Int) (k : D → Prop) : (negW (.int i) k) = k (.int (-i)) := rfl
theorem ltW_i (i j : Int) (k : D → Prop) : (ltW (.int i) (.int j) k) = k (.bl (decide (i < j))) := rfl
theorem leW_i (i j : Int) (k : D → Prop) : (leW (.int i) (.int j) k) = k (.bl (decide (i ≤ j))) := rfl
theorem gtW_i (i j : Int) (k : D → Prop) : (gtW (.int i) (.int j) k) = k (.bl (decide (j < i))) := rfl
theorem geW_i (i j : Int) (k : D → Prop) : (geW (.int i) (.int j) k) = k (.bl (decide (j ≤ i))) := rfl
theorem isW_b (a b : Bool) (k : D → Prop) : (isW (.bl a) (.bl b) k) = k (.bl (decide (a = b))) := rfl
theorem isnW_b (a b : Bool) (k : D → Prop) : (isnW (.bl a) (.bl b) k) = k (.bl (!decide (a = b))) := rfl
theorem isW_n_non (k : D → Prop) : (isW .non .non k) = k (.bl true) := rfl
theorem isnW_n_non (k : D → Prop) : (isnW .non .non k) = k (.bl false) := rfl
theorem isPl_non  : (isPl .non) = True := rfl
theorem isiB_non_int  : (isiB .non .int) = false := rfl
theorem isiB_non_bool  : (isiB .non .bool) = false := rfl
theorem isiB_non_tuple  : (isiB .non .tuple) = false := rfl
theorem isiB_non_str  : (isiB .non .str) = false := rfl
theorem isW_n_bl (b : Bool) (k : D → Prop) : (isW (.bl b) .non k) = k (.bl false) := rfl
theorem isnW_n_bl (b : Bool) (k : D → Prop) : (isnW (.bl b) .non k) = k (.bl true) := rfl
theorem isPl_bl (b : Bool)  : (isPl (.bl b)) = True := rfl
theorem isiB_bl_int (b : Bool)  : (isiB (.bl b) .int) = true := rfl
theorem isiB_bl_bool (b : Bool)  : (isiB (.bl b) .bool) = true := rfl
theorem isiB_bl_tuple (b : Bool)  : (isiB (.bl b) .tuple) = false := rfl
theorem isiB_bl_str (b : Bool)  : (isiB (.bl b) .str) = false := rfl
theorem isW_n_int (i : Int) (k : D → Prop) : (isW (.int i) .non k) = k (.bl false) := rfl
theorem isnW_n_int (i : Int) (k : D → Prop) : (isnW (.int i) .non k) = k (.bl true) := rfl
theorem isPl_int (i : Int)  : (isPl (.int i)) = True := rfl
theorem isiB_int_int (i : Int)  : (isiB (.int i) .int) = true := rfl
theorem isiB_int_bool (i : Int)  : (isiB (.int i) .bool) = false := rfl
theorem isiB_int_tuple (i : Int)  : (isiB (.int i) .tuple) = false := rfl
theorem isiB_int_str (i : Int)  : (isiB (.int i) .str) = false := rfl
theorem isW_n_str (x : Str) (k : D → Prop) : (isW (.str x) .non k) = k (.bl false) := rfl
theorem isnW_n_str (x : Str) (k : D → Prop) : (isnW (.str x) .non k) = k (.bl true) := rfl
theorem isPl_str (x : Str)  : (isPl (.str x)) = True := rfl
theorem isiB_str_int (x : Str)  : (isiB (.str x) .int) = false := rfl
theorem isiB_str_bool (x : Str)  : (isiB (.str x) .bool) = false := rfl
theorem isiB_str_tuple (x : Str)  : (isiB (.str x) .tuple) = false := rfl
theorem isiB_str_str (x : Str)  : (isiB (.str x) .str) = true := rfl
theorem isW_n_tup (xs : List D) (k : D → Prop) : (isW (.tup xs) .non k) = k (.bl false) := rfl
theorem isnW_n_tup (xs : List D) (k : D → Prop) : (isnW (.tup xs) .non k) = k (.bl true) := rfl
theorem isPl_tup (xs : List D)  : (isPl (.tup xs)) = True := rfl
theorem isiB_tup_int (xs : List D)  : (isiB (.tup xs) .int) = false := rfl
theorem isiB_tup_bool (xs : List D)  : (isiB (.tup xs) .bool) = false := rfl
theorem isiB_tup_tuple (xs : List D)  : (isiB (.tup xs) .tuple) = true := rfl
theorem isiB_tup_str (xs : List D)  : (isiB (.tup xs) .str) = false := rfl
theorem isW_n_lst (xs : List D) (k : D → Prop) : (isW (.lst xs) .non k) = k (.bl false) := rfl
theorem isnW_n_lst (xs : List D) (k : D → Prop) : (isnW (.lst xs) .non k) = k (.bl true) := rfl
theorem isPl_lst (xs : List D)  : (isPl (.lst xs)) = True := rfl
theorem isiB_lst_int (xs : List D)  : (isiB (.lst xs) .int) = false := rfl
theorem isiB_lst_bool (xs : List D)  : (isiB (.lst xs) .bool) = false := rfl
theorem isiB_lst_tuple (xs : List D)  : (isiB (.lst xs) .tuple) = false := rfl
theorem isiB_lst_str (xs : List D)  : (isiB (.lst xs) .str) = false := rfl
theorem isPl_row  : (isPl .row) = False := rfl
theorem isPl_dI (k : List (Int × D)) : (isPl (.dI k)) = False := rfl
theorem isPl_dT (k : List (List Int × D)) : (isPl (.dT k)) = False := rfl
theorem isiW_e (t : Ty) (d : D) (k : D → Prop) : (isiW t d k) = (isPl d ∧ k (.bl (isiB d t))) := rfl
theorem eqW_e (d e : D) (k : D → Prop) : (eqW d e k) = ((Sh 9 d ∧ Sh 9 e) ∧ k (.bl (eqD d e))) := rfl
theorem neW_e (d e : D) (k : D → Prop) : (neW d e k) = ((Sh 9 d ∧ Sh 9 e) ∧ k (.bl (!eqD d e))) := rfl
theorem truW_b (b : Bool) (k : Bool → Prop) : (truW (.bl b) k) = k b := rfl
theorem truW_i (i : Int) (k : Bool → Prop) : (truW (.int i) k) = k (i != 0) := rfl
theorem truW_l (xs : List D) (k : Bool → Prop) : (truW (.lst xs) k) = k (!xs.isEmpty) := rfl
theorem truW_t (xs : List D) (k : Bool → Prop) : (truW (.tup xs) k) = k (!xs.isEmpty) := rfl
theorem truW_n (k : Bool → Prop) : (truW .non k) = k false := rfl
theorem ixS_l (xs : List D) (i : Int) (k : D → Prop) : (ixS (.lst xs) (.int i) k) = okO (atD xs i) k := rfl
theorem ixS_t (xs : List D) (i : Int) (k : D → Prop) : (ixS (.tup xs) (.int i) k) = okO (atD xs i) k := rfl
theorem okO_s {α : Type} (a : α) (k : α → Prop) : (okO (some a) k) = k a := rfl
theorem slT_t (lo hi : Option Int) (xs : List D) (k : D → Prop) : (slT lo hi (.tup xs) k) = k (.tup (cutD xs lo hi)) := rfl
theorem slL_l (lo hi : Option Int) (xs : List D) (k : List D → Prop) : (slL lo hi (.lst xs) k) = k (cutD xs lo hi) := rfl
theorem len1_l (xs : List D) (k : D → Prop) : (len1 [.lst xs] k) = k (.int xs.length) := rfl
theorem len1_t (xs : List D) (k : D → Prop) : (len1 [.tup xs] k) = k (.int xs.length) := rfl
theorem max2_i (i j : Int) (k : D → Prop) : (max2 [.int i, .int j] k) = k (.int (max i j)) := rfl
theorem min2_i (i j : Int) (k : D → Prop) : (min2 [.int i, .int j] k) = k (.int (min i j)) := rfl
theorem abs1_i (i : Int) (k : D → Prop) : (abs1 [.int i] k) = k (.int (i.natAbs : Int)) := rfl
theorem int1_i (i : Int) (k : D → Prop) : (int1 [.int i] k) = k (.int i) := rfl
theorem max1_l (xs : List D) (k : D → Prop) : (max1 [.lst xs] k) = (∃ ns : List Int, xs = ns.map D.int ∧ ns ≠ [] ∧ ∀ m, m ∈ ns → (∀ y ∈ ns, y ≤ m) → k (.int m)) := rfl
theorem min1_l (xs : List D) (k : D → Prop) : (min1 [.lst xs] k) = (∃ ns : List Int, xs = ns.map D.int ∧ ns ≠ [] ∧ ∀ m, m ∈ ns → (∀ y ∈ ns, m ≤ y) → k (.int m)) := rfl
theorem sum1_l (xs : List D) (k : D → Prop) : (sum1 [.lst xs] k) = (∃ ns : List Int, xs = ns.map D.int ∧ k (.int ns.sum)) := rfl
theorem all1_l (xs : List D) (k : D → Prop) : (all1 [.lst xs] k) = (∃ bs : List Bool, xs = bs.map D.bl ∧ k (.bl (bs.all id))) := rfl
theorem any1_l (xs : List D) (k : D → Prop) : (any1 [.lst xs] k) = (∃ bs : List Bool, xs = bs.map D.bl ∧ k (.bl (bs.any id))) := rfl
theorem tuple1_l (xs : List D) (k : D → Prop) : (tuple1 [.lst xs] k) = k (.tup xs) := rfl
theorem tuple1_t (xs : List D) (k : D → Prop) : (tuple1 [.tup xs] k) = k (.tup xs) := rfl
theorem list1_l (xs : List D) (k : List D → Prop) : (list1 [.lst xs] k) = k xs := rfl
theorem list1_t (xs : List D) (k : List D → Prop) : (list1 [.tup xs] k) = k xs := rfl
theorem itW_l (xs : List D) (k : List D → Prop) : (itW (.lst xs) k) = k xs := rfl
theorem itW_t (xs : List D) (k : List D → Prop) : (itW (.tup xs) k) = k xs := rfl
theorem rg1_i (j : Int) (k : List D → Prop) : (rg1 (.int j) k) = (RgOk 0 j ∧ k (rngD 0 j.toNat)) := rfl
theorem rg2_i (i j : Int) (k : List D → Prop) : (rg2 (.int i) (.int j) k) = (RgOk i j ∧ k (rngD i (j - i).toNat)) := rfl
theorem rg3_m (i j : Int) (k : List D → Prop) : (rg3 (.int i) (.int j) (.int (-1)) k) = (RgOk i j ∧ k (rngC i (-1) (i - j).toNat)) := rfl
theorem rg3_2 (i j : Int) (k : List D → Prop) : (rg3 (.int i) (.int j) (.int 2) k) = (RgOk i j ∧ k (rngC i 2 ((j - i + 1) / 2).toNat)) := rfl
theorem val_dat (d : D) : (SV.val (.dat d)) = some d := rfl
theorem val_own (xs : List D) : (SV.val (.own xs)) = some (.lst xs) := rfl
theorem val_un  : (SV.val .un) = none := rfl
theorem val_ownI (k : List (Int × D)) : (SV.val (.ownI k)) = some (.dI k) := rfl
theorem okV_dat (S : Sl) (d : D) (k : D → Prop) : (okV S (.dat d) k) = k d := rfl
theorem okV_slot (S : Sl) (i : Nat) (k : D → Prop) : (okV S (.slot i) k) = okO (getS S i).val k := by show (match (getS S i).val with | some d => k d | none => False) = _; unfold okO; cases (getS S i).val <;> rfl
theorem okVs_n (S : Sl) (k : List D → Prop) : (okVs S [] k) = k [] := rfl
theorem okVs_c (S : Sl) (x : Src) (xs : List Src) (k : List D → Prop) : (okVs S (x :: xs) k) = (okV S x fun d => okVs S xs fun ds => k (d :: ds)) := rfl
theorem getS_0 (x : SV) (S : Sl) : (getS (x :: S) 0) = x := rfl
theorem getS_s (x : SV) (S : Sl) (i : Nat) : (getS (x :: S) (i + 1)) = getS S i := rfl
theorem wVar_e (i : Nat) (S : Sl) (R : D → Sl → Prop) : (wVar i S R) = varS (getS S i) i S R := rfl
theorem varS_dat (d : D) (i : Nat) (S : Sl) (R : D → Sl → Prop) : (varS (.dat d) i S R) = R d S := rfl
theorem varS_own (xs : List D) (i : Nat) (S : Sl) (R : D → Sl → Prop) : (varS (.own xs) i S R) = R (.lst xs) (S.set i (.dat (.lst xs))) := rfl
theorem varS_ownI (xs : List (Int × D)) (i : Nat) (S : Sl) (R : D → Sl → Prop) : (varS (.ownI xs) i S R) = R (.dI xs) (S.set i (.dat (.dI xs))) := rfl
theorem wSlot_e (i : Nat) (S : Sl) (R : Src → Sl → Prop) : (wSlot i S R) = slotS (getS S i).val i S R := rfl
theorem slotS_s (d : D) (i : Nat) (S : Sl) (R : Src → Sl → Prop) : (slotS (some d) i S R) = R (.slot i) S := rfl
theorem tBl_e (t : WE) (S : Sl) (R : Bool → Sl → Prop) : (tBl t S R) = (t S fun d S1 => blS d fun b => R b S1) := rfl
theorem blS_b (b : Bool) (k : Bool → Prop) : (blS (.bl b) k) = k b := rfl
theorem wAndV_e (ta tb : WE) (S : Sl) (R : D → Sl → Prop) : (wAndV ta tb S R) = (ta S fun d S1 => blS d fun c => if c = true then tb S1 R else R (.bl false) S1) := rfl
theorem wOrV_e (ta tb : WE) (S : Sl) (R : D → Sl → Prop) : (wOrV ta tb S R) = (ta S fun d S1 => blS d fun c => if c = true then R (.bl true) S1 else tb S1 R) := rfl
theorem wNotV_e (ta : WE) (S : Sl) (R : D → Sl → Prop) : (wNotV ta S R) = (ta S fun d S1 => blS d fun c => R (.bl (!c)) S1) := rfl
theorem wChain_e (r r' : D → D → (D → Prop) → Prop) (ta tb tc : WE) (S : Sl) (R : D → Sl → Prop) : (wChain r r' ta tb tc S R) = (ta S fun x S1 => tb S1 fun y S2 => r x y fun z => blS z fun c => if c = true then tc S2 fun w S3 => r' y w fun z' => R z' S3 else R (.bl false) S2) := rfl
theorem bTup_t (n : Nat) (g : WGs) (xs : List D) (S : Sl) (R : Sl → Prop) : (bTup n g (.tup xs) S R) = (xs.length = n ∧ g xs S R) := rfl
theorem bNil_n (S : Sl) (R : Sl → Prop) : (bNil [] S R) = R S := rfl
theorem bCons_c (g : WG) (u : WGs) (d : D) (r : List D) (S : Sl) (R : Sl → Prop) : (bCons g u (d :: r) S R) = (g d S fun S1 => u r S1 R) := rfl
theorem sAug_e (i : Nat) (r : D → D → (D → Prop) → Prop) (t : WE) (E : En) (S : Sl) : (sAug i r t E S) = (t S fun e S1 => augS (getS S1 i) fun d => r d e fun z => E.nx (S1.set i (.dat z))) := rfl
theorem augS_d (d : D) (k : D → Prop) : (augS (.dat d) k) = k d := rfl
theorem wOS_e (t : WE) (S : Sl) (R : Option Int → Sl → Prop) : (wOS t S R) = (t S fun d S1 => intS d fun i => R (some i) S1) := rfl
theorem intS_i (i : Int) (k : Int → Prop) : (intS (.int i) k) = k i := rfl
theorem ownS_o (xs : List D) (k : List D → Prop) : (ownS (.own xs) k) = k xs := rfl
theorem lstS_l (xs : List D) (k : List D → Prop) : (lstS (.lst xs) k) = k xs := rfl
theorem forD_n (g : WG) (b : WS) (E : En) (S : Sl) : (forD g b E [] S) = E.nx S := rfl
theorem lcD_n (st : D → (Option D → Prop) → Prop) (k : List D → Prop) : (lcD st [] k) = k [] := rfl
theorem lcD_c (st : D → (Option D → Prop) → Prop) (x : D) (xs : List D) (k : List D → Prop) : (lcD st (x :: xs) k) = st x fun o => lcD st xs fun r => k (o.toList ++ r) := rfl
theorem sh_un  : (SV.shared .un) = true := rfl
theorem sh_dat (d : D) : (SV.shared (.dat d)) = true := rfl
theorem sRaise_e (EX : Str → Prop) (t : WE) (E : En) (S : Sl) : (sRaise EX t E S) = (t S fun d _ => strS d fun nm => EX nm) := rfl
theorem strS_s (x : Str) (k : Str → Prop) : (strS (.str x) k) = k x := rfl
theorem hideV_d (d : D) : (hideV (.dat d)) = .dat d := rfl
theorem hideV_u  : (hideV .un) = .un := rfl
theorem hideV_o (xs : List D) : (hideV (.own xs)) = .un := rfl
end DL

set_option Elab.async false
set_option linter.all false
/-! Loops and comprehensions at the data level, by invariants. -/
namespace DL
open PySem
theorem forD_ind {g : WG} {b : WS} {E : En} (I : Nat → Sl → Prop) : ∀ {xs : List D} {S : Sl}, I 0 S → (∀ i x S (K : Sl → Prop), xs[i]? = some x → I i S → (∀ S', I (i + 1) S' → K S') → g x S fun S1 => b { E with nx := K, ct := K, bk := E.nx } S1) → (∀ S, I xs.length S → E.nx S) → forD g b E xs S := by
  have key : ∀ (xs : List D) (n : Nat) (S : Sl), I n S → (∀ i x S (K : Sl → Prop), xs[i]? = some x → I (n + i) S → (∀ S', I (n + i + 1) S' → K S') → g x S fun S1 => b { E with nx := K, ct := K, bk := E.nx } S1) → (∀ S, I (n + xs.length) S → E.nx S) → forD g b E xs S := by
    intro xs
    induction xs with
    | nil => exact fun n S h _ f => f S h
    | cons x xs ih =>
      intro n S h st f
      refine st 0 x S (forD g b E xs) rfl h fun S' h' => ih (n + 1) S' h' (fun i x S K hx hi hk => ?_) (fun S h => ?_)
      · exact st (i + 1) x S K hx (by rw [show n + (i + 1) = n + 1 + i by omega]; exact hi) (fun S' h => hk S' (by rw [show n + 1 + i + 1 = n + (i + 1) + 1 by omega]; exact h))
      · exact f S (by rw [List.length_cons, show n + (xs.length + 1) = n + 1 + xs.length by omega]; exact h)
  intro xs S h st f
  exact key xs 0 S h (fun i x S K hx hi hk => st i x S K hx (by rw [Nat.zero_add] at hi; exact hi) (fun S' h => hk S' (by rw [Nat.zero_add]; exact h))) (fun S h => f S (by rw [Nat.zero_add] at h; exact h))
theorem whD_ind {c : WT} {b : WS} {E : En} (I : Nat → Sl → Prop) {m : Nat} {S : Sl} (h : I m S) (st : ∀ m S (K : Sl → Prop), I m S → (∀ m' S', m' < m → I m' S' → K S') → c S fun t S1 => if t = true then b { E with nx := K, ct := K, bk := E.nx } S1 else E.nx S1) : ∃ n, whD c b E n S := by
  have key : ∀ (n m : Nat) (S : Sl), m < n → I m S → whD c b E n S := by
    intro n
    induction n with
    | zero => exact fun m S l => absurd l (Nat.not_lt_zero _)
    | succ n ih => exact fun m S l h => st m S _ h fun m' S' l' h' => ih m' S' (by omega) h'
  exact ⟨m + 1, key _ m S (Nat.lt_succ_self m) h⟩
/-- a statement, then the others: P, what holds between them -/
theorem seq_to {t u : WS} {E : En} {S : Sl} (P : Sl → Prop) (h1 : ∀ K : Sl → Prop, (∀ S', P S' → K S') → t { E with nx := K } S) (h2 : ∀ S', P S' → u E S') : sSeq t u E S := h1 _ h2
theorem lcD_fun {st : D → (Option D → Prop) → Prop} {k : List D → Prop} (f : D → Option D) : ∀ {xs : List D}, (∀ x ∈ xs, ∀ k, k (f x) → st x k) → k (xs.filterMap f) → lcD st xs k := by
  intro xs
  induction xs generalizing k with
  | nil => exact fun _ h => h
  | cons x xs ih =>
    intro h hk
    refine h x List.mem_cons_self _ (ih (fun y hy => h y (List.mem_cons_of_mem _ hy)) ?_)
    rw [List.filterMap_cons] at hk
    cases e : f x <;> rw [e] at hk <;> exact hk
/-- the same over a list that is written by g -/
theorem lcD_map {α : Type} {st : D → (Option D → Prop) → Prop} {k : List D → Prop} (g : α → D) (f : α → Option D) : ∀ {ys : List α}, (∀ y ∈ ys, ∀ k, k (f y) → st (g y) k) → k (ys.filterMap f) → lcD st (ys.map g) k := by
  intro ys
  induction ys generalizing k with
  | nil => exact fun _ h => h
  | cons x xs ih =>
    intro h hk
    refine h x List.mem_cons_self _ (ih (fun y hy => h y (List.mem_cons_of_mem _ hy)) ?_)
    rw [List.filterMap_cons] at hk
    cases e : f x <;> rw [e] at hk <;> exact hk
theorem lcD_mapS {st : D → (Option D → Prop) → Prop} {k : List D → Prop} (f : D → D) {xs : List D} (h : ∀ x ∈ xs, ∀ k, k (some (f x)) → st x k) (hk : k (xs.map f)) : lcD st xs k := by
  refine lcD_fun (fun x => some (f x)) h ?_
  rw [List.filterMap_eq_map']
  exact hk
theorem lcD_bl {st : D → (Option D → Prop) → Prop} {k : List D → Prop} (p : D → Bool) {xs : List D} (h : ∀ x ∈ xs, ∀ k, k (some (.bl (p x))) → st x k) (hk : k ((xs.map p).map D.bl)) : lcD st xs k := by
  refine lcD_mapS (fun x => .bl (p x)) h ?_
  rw [List.map_map] at hk
  exact hk
/-- [x for x in .. if p] -/
theorem lcD_filter {α : Type} {st : D → (Option D → Prop) → Prop} {k : List D → Prop} (g : α → D) (p : α → Bool) {ys : List α} (h : ∀ y ∈ ys, ∀ k : Option D → Prop, (if p y = true then k (some (g y)) else k none) → st (g y) k) (hk : k ((ys.filter p).map g)) : lcD st (ys.map g) k := by
  refine lcD_map g (fun y => if p y = true then some (g y) else none) (fun y hy k hk => h y hy k ?_) ?_
  · split <;> rename_i q <;> simpa [q] using hk
  rw [show (ys.filterMap fun y => if p y = true then some (g y) else none) = (ys.filter p).map g from ?_]
  · exact hk
  · clear h hk
    induction ys with
    | nil => rfl
    | cons y ys ih =>
      rw [List.filterMap_cons, List.filter_cons]
      by_cases q : p y = true
      · rw [if_pos q, if_pos q, List.map_cons, ih]
      · rw [if_neg q, if_neg q, ih]
inductive Fa2 {α β : Type} (R : α → β → Prop) : List α → List β → Prop where
  | nil : Fa2 R [] []
  | cons {a : α} {b : β} {as : List α} {bs : List β} : R a b → Fa2 R as bs → Fa2 R (a :: as) (b :: bs)
theorem Fa2.length {α β : Type} {R : α → β → Prop} {as : List α} {bs : List β} (h : Fa2 R as bs) : as.length = bs.length := by
  induction h with
  | nil => rfl
  | cons _ _ ih => simp [ih]
theorem Fa2.all {α β : Type} {R : α → β → Prop} {P : β → Prop} {as : List α} {bs : List β} (h : Fa2 R as bs) (hp : ∀ a b, R a b → P b) : ∀ b ∈ bs, P b := by
  induction h with
  | nil => exact fun b hb => by cases hb
  | cons r _ ih => exact fun b hb => (List.mem_cons.mp hb).elim (fun e => e ▸ hp _ _ r) (ih b)
/-- .. with what is drawn: each thing obeys R -/
theorem lcD_rel {α β : Type} {st : D → (Option D → Prop) → Prop} {k : List D → Prop} (g : α → D) (out : β → D) (R : α → β → Prop) : ∀ {ys : List α}, (∀ y ∈ ys, ∀ k, (∀ z, R y z → k (some (out z))) → st (g y) k) → (∀ zs : List β, Fa2 R ys zs → k (zs.map out)) → lcD st (ys.map g) k := by
  intro ys
  induction ys generalizing k with
  | nil => exact fun _ h => h [] .nil
  | cons x xs ih =>
    intro h hk
    exact h x List.mem_cons_self _ fun z hz => ih (fun y hy => h y (List.mem_cons_of_mem _ hy)) fun zs hzs => hk (z :: zs) (.cons hz hzs)
theorem rngD_eq (lo : Int) (n : Nat) : rngD lo n = ((List.range n).map fun i : Nat => lo + (i : Int)).map D.int := by
  unfold rngD
  rw [List.map_map]
  rfl
theorem rngD_at {lo : Int} {n i : Nat} {x : D} (h : (rngD lo n)[i]? = some x) : i < n ∧ x = .int (lo + (i : Int)) := by
  unfold rngD at h
  rw [List.getElem?_map] at h
  by_cases hi : i < n
  · rw [List.getElem?_eq_getElem (by simpa using hi)] at h
    simp at h
    exact ⟨hi, h.symm⟩
  · rw [List.getElem?_eq_none (by simpa using Nat.le_of_not_lt hi)] at h
    cases h
theorem rngD_size (lo : Int) (n : Nat) : (rngD lo n).length = n := by simp [rngD]
/-- whole numbers from lo, n of them -/
def rg (lo : Int) (n : Nat) : List Int := (List.range n).map fun i : Nat => lo + (i : Int)
theorem rngD_rg (lo : Int) (n : Nat) : rngD lo n = (rg lo n).map D.int := rngD_eq lo n
theorem mem_rg {lo : Int} {n : Nat} {z : Int} : z ∈ rg lo n ↔ lo ≤ z ∧ z < lo + n := by
  unfold rg
  rw [List.mem_map]
  constructor
  · rintro ⟨i, hi, rfl⟩
    have := List.mem_range.mp hi
    omega
  · rintro ⟨h1, h2⟩
    exact ⟨(z - lo).toNat, List.mem_range.mpr (by omega), by omega⟩
theorem atD_nat {xs : List D} {j : Nat} {d : D} (h : xs[j]? = some d) : atD xs (j : Int) = some d := by
  exact L2.atI_nat h
theorem atD0 (x : D) (xs : List D) : atD (x :: xs) 0 = some x := atD_nat (j := 0) rfl
theorem atD1 (x y : D) (xs : List D) : atD (x :: y :: xs) 1 = some y := atD_nat (j := 1) rfl
theorem atD2 (x y z : D) (xs : List D) : atD (x :: y :: z :: xs) 2 = some z := atD_nat (j := 2) rfl
theorem take_at {α : Type} {s : List α} {i : Nat} {p : α} (h : s[i]? = some p) : s.take (i + 1) = s.take i ++ [p] := by
  obtain ⟨hi, e⟩ := List.getElem?_eq_some_iff.mp h
  rw [List.take_succ_eq_append_getElem hi, e]
theorem map_at {α β : Type} {f : α → β} {s : List α} {i : Nat} {x : β} (h : (s.map f)[i]? = some x) : ∃ p, s[i]? = some p ∧ x = f p := by
  rw [List.getElem?_map] at h
  cases e : s[i]? with
  | none => rw [e] at h; cases h
  | some p => rw [e] at h; exact ⟨p, rfl, (Option.some.inj h).symm⟩
theorem drop_at {α : Type} {s : List α} {i : Nat} {p : α} (h : s[i]? = some p) : s.drop i = p :: s.drop (i + 1) := by
  obtain ⟨hi, e⟩ := List.getElem?_eq_some_iff.mp h
  rw [List.drop_eq_getElem_cons hi, e]
theorem cut_to (xs : List Int) (n : Nat) : cutD (xs.map D.int) none (some (n : Int)) = (xs.take n).map D.int := by
  unfold cutD
  rw [HT.sIx_none, HT.sIx_nat, List.drop_zero, Nat.sub_zero, List.length_map]
  rw [← List.map_take]
  congr 1
  by_cases h : n ≤ xs.length
  · rw [Nat.min_eq_left h]
  · rw [Nat.min_eq_right (by omega), List.take_of_length_le (Nat.le_refl _), List.take_of_length_le (by omega)]
end DL

set_option Elab.async false
set_option linter.all false
/-! Equality and shapes of trees. -/
namespace DL
open PySem
@[simp] theorem sh_non (n : Nat) : Sh n .non = True := by cases n <;> rfl
@[simp] theorem sh_bl (n : Nat) (b : Bool) : Sh n (.bl b) = True := by cases n <;> rfl
@[simp] theorem sh_int (n : Nat) (i : Int) : Sh n (.int i) = True := by cases n <;> rfl
@[simp] theorem sh_str (n : Nat) (x : Str) : Sh n (.str x) = (PyData.strOk x = true) := by cases n <;> rfl
@[simp] theorem sh_tup (n : Nat) (xs : List D) : Sh (n + 1) (.tup xs) = ∀ x ∈ xs, Sh n x := rfl
@[simp] theorem sh_lst (n : Nat) (xs : List D) : Sh (n + 1) (.lst xs) = ∀ x ∈ xs, Sh n x := rfl
theorem sh_mono {n m : Nat} {d : D} (h : Sh n d) (l : n ≤ m) : Sh m d := by
  induction n generalizing m d with
  | zero =>
    cases d with
    | tup xs => exact (show False from h).elim
    | lst xs => exact (show False from h).elim
    | non => rw [sh_non]; trivial
    | bl b => rw [sh_bl]; trivial
    | int b => rw [sh_int]; trivial
    | str b => rw [sh_str]; exact h
    | _ => exact (show False from h).elim
  | succ n ih =>
    obtain ⟨m, rfl⟩ : ∃ k, m = k + 1 := ⟨m - 1, by omega⟩
    cases d with
    | tup xs => exact fun x hx => ih (h x hx) (by omega)
    | lst xs => exact fun x hx => ih (h x hx) (by omega)
    | non => rw [sh_non]; trivial
    | bl b => rw [sh_bl]; trivial
    | int b => rw [sh_int]; trivial
    | str b => rw [sh_str]; exact h
    | _ => exact (show False from h).elim
theorem sh_pl {n : Nat} {d : D} (h : Sh n d) : isPl d := by
  cases d with
  | row => cases n <;> exact (show False from h).elim
  | dI k => cases n <;> exact (show False from h).elim
  | dT k => cases n <;> exact (show False from h).elim
  | cel k => cases n <;> exact (show False from h).elim
  | _ => trivial
def eqDs (xs ys : List D) : Bool := PyData.eqvAll (toPys xs) (toPys ys)
@[simp] theorem eqD_non : eqD .non .non = true := rfl
@[simp] theorem eqD_int (i j : Int) : eqD (.int i) (.int j) = decide (i = j) := rfl
@[simp] theorem eqD_bl (a b : Bool) : eqD (.bl a) (.bl b) = (a == b) := rfl
@[simp] theorem eqD_str (x y : Str) : eqD (.str x) (.str y) = (x == y) := rfl
@[simp] theorem eqD_tup (xs ys : List D) : eqD (.tup xs) (.tup ys) = eqDs xs ys := rfl
@[simp] theorem eqD_lst (xs ys : List D) : eqD (.lst xs) (.lst ys) = eqDs xs ys := rfl
@[simp] theorem eqDs_nil : eqDs [] [] = true := rfl
@[simp] theorem eqDs_nc (x : D) (xs : List D) : eqDs [] (x :: xs) = false := rfl
@[simp] theorem eqDs_cn (x : D) (xs : List D) : eqDs (x :: xs) [] = false := rfl
@[simp] theorem eqDs_cons (x y : D) (xs ys : List D) : eqDs (x :: xs) (y :: ys) = (eqD x y && eqDs xs ys) := rfl
theorem eqDs_refl {xs : List D} (h : ∀ x ∈ xs, eqD x x = true) : eqDs xs xs = true := by
  induction xs with
  | nil => rfl
  | cons x xs ih => rw [eqDs_cons, h x List.mem_cons_self, ih fun y hy => h y (List.mem_cons_of_mem _ hy)]; rfl
theorem eqD_refl {n : Nat} : ∀ {d : D}, Sh n d → eqD d d = true := by
  induction n with
  | zero =>
    intro d h
    cases d with
    | non => rfl
    | bl b => rw [eqD_bl]; simp
    | int b => rw [eqD_int]; simp
    | str b => rw [eqD_str]; simp
    | _ => exact (show False from h).elim
  | succ n ih =>
    intro d h
    cases d with
    | non => rfl
    | bl b => rw [eqD_bl]; simp
    | int b => rw [eqD_int]; simp
    | str b => rw [eqD_str]; simp
    | tup xs => exact eqDs_refl fun x hx => ih (h x hx)
    | lst xs => exact eqDs_refl fun x hx => ih (h x hx)
    | _ => exact (show False from h).elim
@[simp] theorem eqDs_ints (xs ys : List Int) : eqDs (xs.map D.int) (ys.map D.int) = decide (xs = ys) := by
  induction xs generalizing ys with
  | nil => cases ys <;> rfl
  | cons x xs ih =>
    cases ys with
    | nil => rfl
    | cons y ys =>
      rw [List.map_cons, List.map_cons, eqDs_cons, ih, eqD_int]
      by_cases h1 : x = y
      · by_cases h2 : xs = ys
        · simp [h1, h2]
        · simp [h1, h2]
      · simp [h1]
example : Sh 9 (.tup [.int 3, .non, .tup [.bl true, .int 4]]) := by simp
example (xs : List Int) : Sh 9 (.tup (xs.map .int)) := by simp
example (xs : List (Int × Int)) : Sh 4 (.tup (xs.map fun p => .tup [.int p.1, .int p.2])) := by
  simp only [sh_tup, List.forall_mem_map]
  simp
end DL

set_option Elab.async false
set_option linter.all false
/-! More operations at the data level. -/
namespace DL
open PySem
/-- x in xs: a list of data, a tuple of whole numbers -/
def inW2 : D → D → (D → Prop) → Prop
  | d, .lst xs, k => (Sh 8 d ∧ ∀ x ∈ xs, Sh 8 x) ∧ k (.bl (inD d xs))
  | .int i, .tup xs, k => ∃ ns : List Int, xs = ns.map D.int ∧ k (.bl (decide (i ∈ ns)))
  | _, _, _ => False
def ninW2 : D → D → (D → Prop) → Prop
  | d, .lst xs, k => (Sh 8 d ∧ ∀ x ∈ xs, Sh 8 x) ∧ k (.bl (!inD d xs))
  | .int i, .tup xs, k => ∃ ns : List Int, xs = ns.map D.int ∧ k (.bl (!decide (i ∈ ns)))
  | _, _, _ => False
theorem inW2_l (d : D) (xs : List D) (k : D → Prop) : (inW2 d (.lst xs) k) = ((Sh 8 d ∧ ∀ x ∈ xs, Sh 8 x) ∧ k (.bl (inD d xs))) := by cases d <;> exact Eq.trans rfl rfl
theorem ninW2_l (d : D) (xs : List D) (k : D → Prop) : (ninW2 d (.lst xs) k) = ((Sh 8 d ∧ ∀ x ∈ xs, Sh 8 x) ∧ k (.bl (!inD d xs))) := by cases d <;> exact Eq.trans rfl rfl
theorem inW2_t (i : Int) (xs : List D) (k : D → Prop) : (inW2 (.int i) (.tup xs) k) = (∃ ns : List Int, xs = ns.map D.int ∧ k (.bl (decide (i ∈ ns)))) := Eq.trans rfl rfl
theorem ninW2_t (i : Int) (xs : List D) (k : D → Prop) : (ninW2 (.int i) (.tup xs) k) = (∃ ns : List Int, xs = ns.map D.int ∧ k (.bl (!decide (i ∈ ns)))) := Eq.trans rfl rfl
/-- a * b: whole numbers, a tuple and a number -/
def mulW2 : D → D → (D → Prop) → Prop
  | .int i, .int j, k => MulOk i j ∧ k (.int (i * j))
  | .tup a, .int j, k => a.length ≤ 1000 ∧ -1000 ≤ j ∧ j ≤ 1000 ∧ k (.tup (List.replicate j.toNat a).flatten)
  | _, _, _ => False
theorem mulW2_i (i j : Int) (k : D → Prop) : (mulW2 (.int i) (.int j) k) = (MulOk i j ∧ k (.int (i * j))) := Eq.trans rfl rfl
theorem mulW2_t (a : List D) (j : Int) (k : D → Prop) : (mulW2 (.tup a) (.int j) k) = (a.length ≤ 1000 ∧ -1000 ≤ j ∧ j ≤ 1000 ∧ k (.tup (List.replicate j.toNat a).flatten)) := Eq.trans rfl rfl
/-- pairs in their order -/
def lexP (p q : Int × Int) : Prop := p.1 < q.1 ∨ (p.1 = q.1 ∧ p.2 ≤ q.2)
def pD (p : Int × Int) : D := .tup [.int p.1, .int p.2]
/-- sorted(xs): whole numbers in a list or a tuple, pairs of whole numbers in a list -/
def sorted1 : List D → (List D → Prop) → Prop
  | [.lst xs], k => (∃ ns : List Int, xs = ns.map .int ∧ ∀ ns' : List Int, ns'.Perm ns → ns'.Pairwise (· ≤ ·) → k (ns'.map .int)) ∨ (∃ ps : List (Int × Int), xs = ps.map pD ∧ ∀ ps' : List (Int × Int), ps'.Perm ps → ps'.Pairwise lexP → k (ps'.map pD))
  | [.tup xs], k => ∃ ns : List Int, xs = ns.map .int ∧ ∀ ns' : List Int, ns'.Perm ns → ns'.Pairwise (· ≤ ·) → k (ns'.map .int)
  | _, _ => False
theorem sorted1_l (xs : List D) (k : List D → Prop) : (sorted1 [.lst xs] k) = ((∃ ns : List Int, xs = ns.map .int ∧ ∀ ns' : List Int, ns'.Perm ns → ns'.Pairwise (· ≤ ·) → k (ns'.map .int)) ∨ (∃ ps : List (Int × Int), xs = ps.map pD ∧ ∀ ps' : List (Int × Int), ps'.Perm ps → ps'.Pairwise lexP → k (ps'.map pD))) := Eq.trans rfl rfl
theorem sorted1_t (xs : List D) (k : List D → Prop) : (sorted1 [.tup xs] k) = (∃ ns : List Int, xs = ns.map .int ∧ ∀ ns' : List Int, ns'.Perm ns → ns'.Pairwise (· ≤ ·) → k (ns'.map .int)) := Eq.trans rfl rfl
/-- tuple(range(n)) -/
def tupRg (d : D) (k : D → Prop) : Prop := rg1 d fun xs => k (.tup xs)
theorem tupRg_i (j : Int) (k : D → Prop) : (tupRg (.int j) k) = (RgOk 0 j ∧ k (.tup (rngD 0 j.toNat))) := Eq.trans rfl rfl
/-- x.remove(e) of a list of whole numbers of one's own; x.pop(e) -/
def remS (xs : List D) (d : D) (k : List D → Prop) : Prop := ∃ (ns : List Int) (i : Int) (j : Nat), xs = ns.map .int ∧ d = .int i ∧ ns[j]? = some i ∧ (∀ m, m < j → ns[m]? ≠ some i) ∧ k ((ns.eraseIdx j).map .int)
def sRemove (i : Nat) (t : WE) : WS := fun E S => ownS (getS S i) fun _ => t S fun d S1 => ownS (getS S1 i) fun xs => remS xs d fun ys => E.nx (S1.set i (.own ys))
def popS (xs : List D) (d : D) (k : D → List D → Prop) : Prop := ∃ (i : Int) (m : Nat) (x : D), d = .int i ∧ ixD xs.length i = some m ∧ xs[m]? = some x ∧ -1000000 ≤ i ∧ i ≤ 1000000 ∧ k x (xs.eraseIdx m)
def wPopAt (i : Nat) (t : WE) : WE := fun S R => ownS (getS S i) fun _ => t S fun d S1 => ownS (getS S1 i) fun xs => popS xs d fun x ys => R x (S1.set i (.own ys))
theorem sRemove_e (i : Nat) (t : WE) (E : En) (S : Sl) : (sRemove i t E S) = (ownS (getS S i) fun _ => t S fun d S1 => ownS (getS S1 i) fun xs => remS xs d fun ys => E.nx (S1.set i (.own ys))) := Eq.trans rfl rfl
theorem wPopAt_e (i : Nat) (t : WE) (S : Sl) (R : D → Sl → Prop) : (wPopAt i t S R) = (ownS (getS S i) fun _ => t S fun d S1 => ownS (getS S1 i) fun xs => popS xs d fun x ys => R x (S1.set i (.own ys))) := Eq.trans rfl rfl
/-- two fors in a comprehension -/
def lc2D (st : D → (List D → Prop) → Prop) : List D → (List D → Prop) → Prop
  | [], k => k []
  | x :: xs, k => st x fun r => lc2D st xs fun rs => k (r ++ rs)
def lc2Step (g : WG) (t : WTs) (w1 : WI) (g1 : WG) (t1 : WTs) (e : WE) (vs vs1 : List Nat) (S : Sl) (x : D) (k : List D → Prop) : Prop :=
  g x S fun S1 => (wipeS S1 vs = S ∧ (vs.all fun v => (getS S1 v).shared) = true) ∧ t S1 fun b S2 => S2 = S1 ∧ if b = true then w1 S1 fun dep xs S3 => S3 = S1 ∧ xs.length ≤ 1000 ∧ (dep.all fun i => !vs1.contains i) = true ∧ (vs1.all fun v => (getS S1 v).shared) = true ∧ lcD (lcStep g1 t1 e vs1 (wipeS S1 vs1)) xs k else k []
def wLc2 (w : WI) (g : WG) (t : WTs) (w1 : WI) (g1 : WG) (t1 : WTs) (e : WE) (vs vs1 : List Nat) : WL := fun S R => w S fun dep xs S1 => xs.length ≤ 1000 ∧ (dep.all fun i => !vs.contains i) = true ∧ (vs.all fun v => (getS S1 v).shared) = true ∧ lc2D (lc2Step g t w1 g1 t1 e vs vs1 (wipeS S1 vs)) xs fun r => R r S1
theorem lc2Step_e (g : WG) (t : WTs) (w1 : WI) (g1 : WG) (t1 : WTs) (e : WE) (vs vs1 : List Nat) (S : Sl) (x : D) (k : List D → Prop) : (lc2Step g t w1 g1 t1 e vs vs1 S x k) = (g x S fun S1 => (wipeS S1 vs = S ∧ (vs.all fun v => (getS S1 v).shared) = true) ∧ t S1 fun b S2 => S2 = S1 ∧ if b = true then w1 S1 fun dep xs S3 => S3 = S1 ∧ xs.length ≤ 1000 ∧ (dep.all fun i => !vs1.contains i) = true ∧ (vs1.all fun v => (getS S1 v).shared) = true ∧ lcD (lcStep g1 t1 e vs1 (wipeS S1 vs1)) xs k else k []) := Eq.trans rfl rfl
theorem wLc2_e (w : WI) (g : WG) (t : WTs) (w1 : WI) (g1 : WG) (t1 : WTs) (e : WE) (vs vs1 : List Nat) (S : Sl) (R : List D → Sl → Prop) : (wLc2 w g t w1 g1 t1 e vs vs1 S R) = (w S fun dep xs S1 => xs.length ≤ 1000 ∧ (dep.all fun i => !vs.contains i) = true ∧ (vs.all fun v => (getS S1 v).shared) = true ∧ lc2D (lc2Step g t w1 g1 t1 e vs vs1 (wipeS S1 vs)) xs fun r => R r S1) := Eq.trans rfl rfl
/-- min of a list of pairs -/
def min1P : List D → (D → Prop) → Prop
  | [.lst xs], k => ∃ ps : List (Int × Int), xs = ps.map pD ∧ ps ≠ [] ∧ ∀ p ∈ ps, (∀ q ∈ ps, lexP p q) → k (pD p)
  | _, _ => False
theorem min1P_l (xs : List D) (k : D → Prop) : (min1P [.lst xs] k) = (∃ ps : List (Int × Int), xs = ps.map pD ∧ ps ≠ [] ∧ ∀ p ∈ ps, (∀ q ∈ ps, lexP p q) → k (pD p)) := Eq.trans rfl rfl
/-- xs[::c], c = -1 or 2 -/
def stepP (c : Int) (n : Nat) : List Nat := if c = -1 then (List.range n).map fun k => n - 1 - k else (List.range ((n + 1) / 2)).map fun k => 2 * k
def stepD (c : Int) (xs : List D) : List D := (stepP c xs.length).filterMap fun k => xs[k]?
def slS (c : Int) (d : D) (k : D → Prop) : Prop := match d with
  | .tup xs => (c = -1 ∨ c = 2) ∧ k (.tup (stepD c xs))
  | _ => False
def slLS (c : Int) (d : D) (k : List D → Prop) : Prop := match d with
  | .lst xs => (c = -1 ∨ c = 2) ∧ k (stepD c xs)
  | _ => False
theorem slS_t (c : Int) (xs : List D) (k : D → Prop) : (slS c (.tup xs) k) = ((c = -1 ∨ c = 2) ∧ k (.tup (stepD c xs))) := Eq.trans rfl rfl
theorem slLS_l (c : Int) (xs : List D) (k : List D → Prop) : (slLS c (.lst xs) k) = ((c = -1 ∨ c = 2) ∧ k (stepD c xs)) := Eq.trans rfl rfl
def slW (d e : D) (k : D → Prop) : Prop := match e with
  | .int c => slS c d k
  | _ => False
def slLW (d e : D) (k : List D → Prop) : Prop := match e with
  | .int c => slLS c d k
  | _ => False
theorem slW_i (d : D) (c : Int) (k : D → Prop) : (slW d (.int c) k) = slS c d k := Eq.trans rfl rfl
theorem slLW_i (d : D) (c : Int) (k : List D → Prop) : (slLW d (.int c) k) = slLS c d k := Eq.trans rfl rfl
/-! ### dicts -/
theorem val_ownT2 (k : List (List Int × D)) : (SV.val (.ownT k)) = some (.dT k) := Eq.trans rfl rfl
theorem varS_ownT2 (xs : List (List Int × D)) (i : Nat) (S : Sl) (R : D → Sl → Prop) : (varS (.ownT xs) i S R) = R (.dT xs) (S.set i (.dat (.dT xs))) := Eq.trans rfl rfl
theorem hideV_ownI2 (k : List (Int × D)) : hideV (.ownI k) = .un := Eq.trans rfl rfl
theorem hideV_ownT2 (k : List (List Int × D)) : hideV (.ownT k) = .un := Eq.trans rfl rfl
def putD {κ : Type} [DecidableEq κ] (kvs : List (κ × D)) (k : κ) (v : D) : List (κ × D) := if (kvs.any fun p => decide (p.1 = k)) = true then kvs.map fun p => if p.1 = k then (p.1, v) else p else kvs ++ [(k, v)]
/-- d[k] -/
def dgW : D → D → (D → Prop) → Prop
  | .dI kvs, .int i, k => okO (lookI kvs i) k
  | .dT kvs, .tup ks, k => ∃ ns : List Int, ks = ns.map D.int ∧ okO (lookT kvs ns) k
  | _, _, _ => False
theorem dgW_i (kvs : List (Int × D)) (i : Int) (k : D → Prop) : (dgW (.dI kvs) (.int i) k) = okO (lookI kvs i) k := Eq.trans rfl rfl
theorem dgW_t (kvs : List (List Int × D)) (ks : List D) (k : D → Prop) : (dgW (.dT kvs) (.tup ks) k) = (∃ ns : List Int, ks = ns.map D.int ∧ okO (lookT kvs ns) k) := Eq.trans rfl rfl
/-- k in d, k not in d -/
def dinW : D → D → (D → Prop) → Prop
  | .int i, .dI kvs, k => k (.bl (lookI kvs i).isSome)
  | .tup ks, .dT kvs, k => ∃ ns : List Int, ks = ns.map D.int ∧ k (.bl (lookT kvs ns).isSome)
  | _, _, _ => False
theorem dinW_i (kvs : List (Int × D)) (i : Int) (k : D → Prop) : (dinW (.int i) (.dI kvs) k) = k (.bl (lookI kvs i).isSome) := Eq.trans rfl rfl
theorem dinW_t (kvs : List (List Int × D)) (ks : List D) (k : D → Prop) : (dinW (.tup ks) (.dT kvs) k) = (∃ ns : List Int, ks = ns.map D.int ∧ k (.bl (lookT kvs ns).isSome)) := Eq.trans rfl rfl
def dninW : D → D → (D → Prop) → Prop
  | .int i, .dI kvs, k => k (.bl (!(lookI kvs i).isSome))
  | .tup ks, .dT kvs, k => ∃ ns : List Int, ks = ns.map D.int ∧ k (.bl (!(lookT kvs ns).isSome))
  | _, _, _ => False
theorem dninW_i (kvs : List (Int × D)) (i : Int) (k : D → Prop) : (dninW (.int i) (.dI kvs) k) = k (.bl (!(lookI kvs i).isSome)) := Eq.trans rfl rfl
theorem dninW_t (kvs : List (List Int × D)) (ks : List D) (k : D → Prop) : (dninW (.tup ks) (.dT kvs) k) = (∃ ns : List Int, ks = ns.map D.int ∧ k (.bl (!(lookT kvs ns).isSome))) := Eq.trans rfl rfl
/-- d.get(k, z) -/
def isDc : D → Prop
  | .dI _ => True
  | .dT _ => True
  | _ => False
theorem isDc_i (kvs : List (Int × D)) : isDc (.dI kvs) = True := Eq.trans rfl rfl
theorem isDc_t (kvs : List (List Int × D)) : isDc (.dT kvs) = True := Eq.trans rfl rfl
def dgetW : D → D → D → (D → Prop) → Prop
  | .dI kvs, .int i, z, k => k ((lookI kvs i).getD z)
  | .dT kvs, .tup ks, z, k => ∃ ns : List Int, ks = ns.map D.int ∧ k ((lookT kvs ns).getD z)
  | _, _, _, _ => False
theorem dgetW_i (kvs : List (Int × D)) (i : Int) (z : D) (k : D → Prop) : (dgetW (.dI kvs) (.int i) z k) = k ((lookI kvs i).getD z) := Eq.trans rfl rfl
theorem dgetW_t (kvs : List (List Int × D)) (ks : List D) (z : D) (k : D → Prop) : (dgetW (.dT kvs) (.tup ks) z k) = (∃ ns : List Int, ks = ns.map D.int ∧ k ((lookT kvs ns).getD z)) := Eq.trans rfl rfl
def wGet (td tk : WSr) (tx : WE) : WE := fun S R => td S fun x S1 => okV S1 x isDc ∧ tk S1 fun y S2 => tx S2 fun z S3 => okV S3 x fun d => okV S3 y fun e => dgetW d e z fun r => R r S3
theorem wGet_e (td tk : WSr) (tx : WE) (S : Sl) (R : D → Sl → Prop) : (wGet td tk tx S R) = (td S fun x S1 => okV S1 x isDc ∧ tk S1 fun y S2 => tx S2 fun z S3 => okV S3 x fun d => okV S3 y fun e => dgetW d e z fun r => R r S3) := Eq.trans rfl rfl
/-- {}, dict(d), {k: v} -/
def dIS (d : D) (k : List (Int × D) → Prop) : Prop := match d with
  | .dI kvs => k kvs
  | _ => False
theorem dIS_i (kvs : List (Int × D)) (k : List (Int × D) → Prop) : (dIS (.dI kvs) k) = k kvs := Eq.trans rfl rfl
abbrev WDI := Sl → (List (Int × D) → Sl → Prop) → Prop
def wNewI : WDI := fun S R => R [] S
def wNewT : WN := fun S R => R (.ownT []) S
def wCopyI (t : WSr) : WDI := fun S R => t S fun x S1 => okV S1 x fun d => dIS d fun kvs => R kvs S1
def wDisp1 (tk tv : WE) : WDI := fun S R => tk S fun a S1 => tv S1 fun b S2 => intS a fun i => R [(i, b)] S2
def wNoI (t : WDI) : WN := fun S R => t S fun kvs S1 => R (.ownI kvs) S1
def wFzI (t : WDI) : WE := fun S R => t S fun kvs S1 => R (.dI kvs) S1
theorem wNewI_e (S : Sl) (R : List (Int × D) → Sl → Prop) : (wNewI S R) = R [] S := Eq.trans rfl rfl
theorem wNewT_e (S : Sl) (R : SV → Sl → Prop) : (wNewT S R) = R (.ownT []) S := Eq.trans rfl rfl
theorem wCopyI_e (t : WSr) (S : Sl) (R : List (Int × D) → Sl → Prop) : (wCopyI t S R) = (t S fun x S1 => okV S1 x fun d => dIS d fun kvs => R kvs S1) := Eq.trans rfl rfl
theorem wDisp1_e (tk tv : WE) (S : Sl) (R : List (Int × D) → Sl → Prop) : (wDisp1 tk tv S R) = (tk S fun a S1 => tv S1 fun b S2 => intS a fun i => R [(i, b)] S2) := Eq.trans rfl rfl
theorem wNoI_e (t : WDI) (S : Sl) (R : SV → Sl → Prop) : (wNoI t S R) = (t S fun kvs S1 => R (.ownI kvs) S1) := Eq.trans rfl rfl
theorem wFzI_e (t : WDI) (S : Sl) (R : D → Sl → Prop) : (wFzI t S R) = (t S fun kvs S1 => R (.dI kvs) S1) := Eq.trans rfl rfl
/-- d[k] = v of a dict of one's own -/
def ownIS (x : SV) (k : List (Int × D) → Prop) : Prop := match x with
  | .ownI kvs => k kvs
  | _ => False
def ownTS (x : SV) (k : List (List Int × D) → Prop) : Prop := match x with
  | .ownT kvs => k kvs
  | _ => False
def tupS (d : D) (k : List Int → Prop) : Prop := match d with
  | .tup ks => ∃ ns : List Int, ks = ns.map D.int ∧ k ns
  | _ => False
theorem ownIS_o (kvs : List (Int × D)) (k : List (Int × D) → Prop) : (ownIS (.ownI kvs) k) = k kvs := Eq.trans rfl rfl
theorem ownTS_o (kvs : List (List Int × D)) (k : List (List Int × D) → Prop) : (ownTS (.ownT kvs) k) = k kvs := Eq.trans rfl rfl
theorem tupS_t (ks : List D) (k : List Int → Prop) : (tupS (.tup ks) k) = (∃ ns : List Int, ks = ns.map D.int ∧ k ns) := Eq.trans rfl rfl
def sPutI (i : Nat) (tk t : WE) : WS := fun E S => t S fun d S1 => ownIS (getS S1 i) fun _ => tk S1 fun k S2 => ownIS (getS S2 i) fun kvs => intS k fun j => kvs.length < 1000000 ∧ E.nx (S2.set i (.ownI (putD kvs j d)))
def sPutT (i : Nat) (tk t : WE) : WS := fun E S => t S fun d S1 => ownTS (getS S1 i) fun _ => tk S1 fun k S2 => ownTS (getS S2 i) fun kvs => tupS k fun j => kvs.length < 1000000 ∧ E.nx (S2.set i (.ownT (putD kvs j d)))
theorem sPutI_e (i : Nat) (tk t : WE) (E : En) (S : Sl) : (sPutI i tk t E S) = (t S fun d S1 => ownIS (getS S1 i) fun _ => tk S1 fun k S2 => ownIS (getS S2 i) fun kvs => intS k fun j => kvs.length < 1000000 ∧ E.nx (S2.set i (.ownI (putD kvs j d)))) := Eq.trans rfl rfl
theorem sPutT_e (i : Nat) (tk t : WE) (E : En) (S : Sl) : (sPutT i tk t E S) = (t S fun d S1 => ownTS (getS S1 i) fun _ => tk S1 fun k S2 => ownTS (getS S2 i) fun kvs => tupS k fun j => kvs.length < 1000000 ∧ E.nx (S2.set i (.ownT (putD kvs j d)))) := Eq.trans rfl rfl
/-- a dict is walked; sorted(d) -/
def iDk (t : WE) : WI := fun S R => t S fun d S1 => dIS d fun kvs => kvs.length ≤ 1000000 ∧ R [] (kvs.map fun p => D.int p.1) S1
theorem iDk_e (t : WE) (S : Sl) (R : List Nat → List D → Sl → Prop) : (iDk t S R) = (t S fun d S1 => dIS d fun kvs => kvs.length ≤ 1000000 ∧ R [] (kvs.map fun p => D.int p.1) S1) := Eq.trans rfl rfl
def sorted1D : List D → (List D → Prop) → Prop
  | [.dI kvs], k => ∀ ns : List Int, ns.Perm (kvs.map (·.1)) → ns.Pairwise (· ≤ ·) → k (ns.map .int)
  | _, _ => False
theorem sorted1D_i (kvs : List (Int × D)) (k : List D → Prop) : (sorted1D [.dI kvs] k) = (∀ ns : List Int, ns.Perm (kvs.map (·.1)) → ns.Pairwise (· ≤ ·) → k (ns.map .int)) := Eq.trans rfl rfl
/-- x = {..}, then the others: new lists by a test -/
def wIfL (t : WT) (a b : WL) : WL := fun S R => t S fun c S1 => if c = true then a S1 R else b S1 R
theorem wIfL_e (t : WT) (a b : WL) (S : Sl) (R : List D → Sl → Prop) : (wIfL t a b S R) = (t S fun c S1 => if c = true then a S1 R else b S1 R) := Eq.trans rfl rfl
/-- xs.index(v), of whole numbers -/
def isLs : D → Prop
  | .lst _ => True
  | _ => False
theorem isLs_l (xs : List D) : isLs (.lst xs) = True := Eq.trans rfl rfl
def idxW : D → D → (D → Prop) → Prop
  | .lst xs, .int i, k => ∃ (ns : List Int) (j : Nat), xs = ns.map D.int ∧ ns[j]? = some i ∧ (∀ m, m < j → ns[m]? ≠ some i) ∧ k (.int (j : Int))
  | _, _, _ => False
theorem idxW_l (xs : List D) (i : Int) (k : D → Prop) : (idxW (.lst xs) (.int i) k) = (∃ (ns : List Int) (j : Nat), xs = ns.map D.int ∧ ns[j]? = some i ∧ (∀ m, m < j → ns[m]? ≠ some i) ∧ k (.int (j : Int))) := Eq.trans rfl rfl
def wIdx (ta tb : WSr) : WE := fun S R => ta S fun x S1 => okV S1 x isLs ∧ tb S1 fun y S2 => okV S2 x fun d => okV S2 y fun e => idxW d e fun r => R r S2
theorem wIdx_e (ta tb : WSr) (S : Sl) (R : D → Sl → Prop) : (wIdx ta tb S R) = (ta S fun x S1 => okV S1 x isLs ∧ tb S1 fun y S2 => okV S2 x fun d => okV S2 y fun e => idxW d e fun r => R r S2) := Eq.trans rfl rfl
/-! ### lists of whole numbers that are changed under several names -/
def celOfW (d : D) (k : Nat → Prop) : Prop := match d with
  | .tup xs => ∃ ns : List Int, xs = ns.map D.int ∧ ns.length ≤ 1000000 ∧ k ns.length
  | .lst xs => ∃ ns : List Int, xs = ns.map D.int ∧ ns.length ≤ 1000000 ∧ k ns.length
  | _ => False
theorem celOfW_t (xs : List D) (k : Nat → Prop) : (celOfW (.tup xs) k) = (∃ ns : List Int, xs = ns.map D.int ∧ ns.length ≤ 1000000 ∧ k ns.length) := Eq.trans rfl rfl
theorem celOfW_l (xs : List D) (k : Nat → Prop) : (celOfW (.lst xs) k) = (∃ ns : List Int, xs = ns.map D.int ∧ ns.length ≤ 1000000 ∧ k ns.length) := Eq.trans rfl rfl
def wCelOf (t : WSr) : WE := fun S R => t S fun x S1 => okV S1 x fun d => celOfW d fun n => R (.cel n) S1
theorem wCelOf_e (t : WSr) (S : Sl) (R : D → Sl → Prop) : (wCelOf t S R) = (t S fun x S1 => okV S1 x fun d => celOfW d fun n => R (.cel n) S1) := Eq.trans rfl rfl
def wCelLst (ta : WA) : WE := fun S R => ta S fun ds S1 => ∃ ns : List Int, ds = ns.map D.int ∧ ns.length ≤ 1000000 ∧ R (.cel ns.length) S1
theorem wCelLst_e (ta : WA) (S : Sl) (R : D → Sl → Prop) : (wCelLst ta S R) = (ta S fun ds S1 => ∃ ns : List Int, ds = ns.map D.int ∧ ns.length ≤ 1000000 ∧ R (.cel ns.length) S1) := Eq.trans rfl rfl
def celIxW : D → D → (D → Prop) → Prop
  | .cel n, .int i, k => ∃ m, ixD n i = some m ∧ ∀ z : Int, k (.int z)
  | _, _, _ => False
theorem celIxW_i (n : Nat) (i : Int) (k : D → Prop) : (celIxW (.cel n) (.int i) k) = (∃ m, ixD n i = some m ∧ ∀ z : Int, k (.int z)) := Eq.trans rfl rfl
def celTupW (d : D) (k : D → Prop) : Prop := match d with
  | .cel n => ∀ ns : List Int, ns.length = n → k (.tup (ns.map D.int))
  | _ => False
theorem celTupW_i (n : Nat) (k : D → Prop) : (celTupW (.cel n) k) = (∀ ns : List Int, ns.length = n → k (.tup (ns.map D.int))) := Eq.trans rfl rfl
def celS (x : SV) (k : Nat → Prop) : Prop := match x with
  | .dat (.cel n) => k n
  | _ => False
theorem celS_o (n : Nat) (k : Nat → Prop) : (celS (.dat (.cel n)) k) = k n := Eq.trans rfl rfl
def sCelSet (i : Nat) (tk t : WE) : WS := fun E S => t S fun d S1 => celS (getS S1 i) fun _ => tk S1 fun k S2 => celS (getS S2 i) fun n => intS k fun j => intS d fun _ => ∃ m, ixD n j = some m ∧ E.nx S2
theorem sCelSet_e (i : Nat) (tk t : WE) (E : En) (S : Sl) : (sCelSet i tk t E S) = (t S fun d S1 => celS (getS S1 i) fun _ => tk S1 fun k S2 => celS (getS S2 i) fun n => intS k fun j => intS d fun _ => ∃ m, ixD n j = some m ∧ E.nx S2) := Eq.trans rfl rfl
/-- f(row, x) of a list of one's own that f does not keep -/
def flatD : D → Prop
  | .non => True
  | .bl _ => True
  | .int _ => True
  | .str _ => True
  | .cel _ => True
  | _ => False
theorem flatD_cel (n : Nat) : flatD (.cel n) = True := Eq.trans rfl rfl
theorem flatD_int (n : Int) : flatD (.int n) = True := Eq.trans rfl rfl
def wCallO (s : DSp) (EX : Str → Prop) (r i : Nat) : WE := fun S R => wVar r S fun d S1 => ownS (getS S1 i) fun xs => s [d, .lst xs] (fun z => flatD z ∧ R z S1) EX
theorem wCallO_e (s : DSp) (EX : Str → Prop) (r i : Nat) (S : Sl) (R : D → Sl → Prop) : (wCallO s EX r i S R) = (wVar r S fun d S1 => ownS (getS S1 i) fun xs => s [d, .lst xs] (fun z => flatD z ∧ R z S1) EX) := Eq.trans rfl rfl
end DL

set_option Elab.async false
set_option linter.all false
/-! The facts of DSimp and the transformers' own unfoldings, as equations that are followed step by step. -/
namespace DL
open PySem
theorem x_addW_i (i j : Int) (k : D → Prop) : (addW (.int i) (.int j) k) = (k (.int (i + j))) := Eq.trans rfl rfl
theorem x_addW_t (a b : List D) (k : D → Prop) : (addW (.tup a) (.tup b) k) = ((a.length + b.length ≤ 1000000 ∧ k (.tup (a ++ b)))) := Eq.trans rfl rfl
theorem x_catW_l (a b : List D) (k : List D → Prop) : (catW (.lst a) (.lst b) k) = ((a.length + b.length ≤ 1000000 ∧ k (a ++ b))) := Eq.trans rfl rfl
theorem x_addI_i (i j : Int) (k : D → Prop) : (addI (.int i) (.int j) k) = (k (.int (i + j))) := Eq.trans rfl rfl
theorem x_subW_i (i j : Int) (k : D → Prop) : (subW (.int i) (.int j) k) = (k (.int (i - j))) := Eq.trans rfl rfl
theorem x_mulW_i (i j : Int) (k : D → Prop) : (mulW (.int i) (.int j) k) = ((MulOk i j ∧ k (.int (i * j)))) := Eq.trans rfl rfl
theorem x_mulW_t (a : List D) (j : Int) (k : D → Prop) : (mulW (.tup a) (.int j) k) = ((a.length ≤ 1000 ∧ a ≠ [] ∧ 2 ≤ j ∧ j ≤ 1000 ∧ k (.tup (List.replicate j.toNat a).flatten))) := Eq.trans rfl rfl
theorem x_repW_l (a : List D) (j : Int) (k : List D → Prop) : (repW (.lst a) (.int j) k) = ((a.length ≤ 1000 ∧ -1000 ≤ j ∧ j ≤ 1000 ∧ k (List.replicate j.toNat a).flatten)) := Eq.trans rfl rfl
theorem x_fdivW_i (i j : Int) (k : D → Prop) : (fdivW (.int i) (.int j) k) = (((0 < j ∧ j < 2 ^ 256) ∧ k (.int (i / j)))) := Eq.trans rfl rfl
theorem x_modW_i (i j : Int) (k : D → Prop) : (modW (.int i) (.int j) k) = ((0 < j ∧ k (.int (i % j)))) := Eq.trans rfl rfl
theorem x_shlW_i (i j : Int) (k : D → Prop) : (shlW (.int i) (.int j) k) = (((0 ≤ j ∧ j ≤ 1000 ∧ -1000000 ≤ i ∧ i ≤ 1000000) ∧ k (.int (i * 2 ^ j.toNat)))) := Eq.trans rfl rfl
theorem x_shrW_i (i j : Int) (k : D → Prop) : (shrW (.int i) (.int j) k) = ((0 ≤ j ∧ k (.int (i / 2 ^ j.toNat)))) := Eq.trans rfl rfl
theorem x_andW_i (i j : Int) (k : D → Prop) : (andW (.int i) (.int j) k) = (k (.int (Builtin.bitAnd i j))) := Eq.trans rfl rfl
theorem x_orW_i (i j : Int) (k : D → Prop) : (orW (.int i) (.int j) k) = (k (.int (Builtin.bitOr i j))) := Eq.trans rfl rfl
theorem x_xorW_i (i j : Int) (k : D → Prop) : (xorW (.int i) (.int j) k) = (k (.int (Builtin.bitXor i j))) := Eq.trans rfl rfl
theorem x_negW_i (i : Int) (k : D → Prop) : (negW (.int i) k) = (k (.int (-i))) := Eq.trans rfl rfl
theorem x_ltW_i (i j : Int) (k : D → Prop) : (ltW (.int i) (.int j) k) = (k (.bl (decide (i < j)))) := Eq.trans rfl rfl
theorem x_leW_i (i j : Int) (k : D → Prop) : (leW (.int i) (.int j) k) = (k (.bl (decide (i ≤ j)))) := Eq.trans rfl rfl
theorem x_gtW_i (i j : Int) (k : D → Prop) : (gtW (.int i) (.int j) k) = (k (.bl (decide (j < i)))) := Eq.trans rfl rfl
theorem x_geW_i (i j : Int) (k : D → Prop) : (geW (.int i) (.int j) k) = (k (.bl (decide (j ≤ i)))) := Eq.trans rfl rfl
theorem x_isW_b (a b : Bool) (k : D → Prop) : (isW (.bl a) (.bl b) k) = (k (.bl (decide (a = b)))) := Eq.trans rfl rfl
theorem x_isnW_b (a b : Bool) (k : D → Prop) : (isnW (.bl a) (.bl b) k) = (k (.bl (!decide (a = b)))) := Eq.trans rfl rfl
theorem x_isW_n_non (k : D → Prop) : (isW .non .non k) = (k (.bl true)) := Eq.trans rfl rfl
theorem x_isnW_n_non (k : D → Prop) : (isnW .non .non k) = (k (.bl false)) := Eq.trans rfl rfl
theorem x_isPl_non  : (isPl .non) = (True) := Eq.trans rfl rfl
theorem x_isiB_non_int  : (isiB .non .int) = (false) := Eq.trans rfl rfl
theorem x_isiB_non_bool  : (isiB .non .bool) = (false) := Eq.trans rfl rfl
theorem x_isiB_non_tuple  : (isiB .non .tuple) = (false) := Eq.trans rfl rfl
theorem x_isiB_non_str  : (isiB .non .str) = (false) := Eq.trans rfl rfl
theorem x_isW_n_bl (b : Bool) (k : D → Prop) : (isW (.bl b) .non k) = (k (.bl false)) := Eq.trans rfl rfl
theorem x_isnW_n_bl (b : Bool) (k : D → Prop) : (isnW (.bl b) .non k) = (k (.bl true)) := Eq.trans rfl rfl
theorem x_isPl_bl (b : Bool)  : (isPl (.bl b)) = (True) := Eq.trans rfl rfl
theorem x_isiB_bl_int (b : Bool)  : (isiB (.bl b) .int) = (true) := Eq.trans rfl rfl
theorem x_isiB_bl_bool (b : Bool)  : (isiB (.bl b) .bool) = (true) := Eq.trans rfl rfl
theorem x_isiB_bl_tuple (b : Bool)  : (isiB (.bl b) .tuple) = (false) := Eq.trans rfl rfl
theorem x_isiB_bl_str (b : Bool)  : (isiB (.bl b) .str) = (false) := Eq.trans rfl rfl
theorem x_isW_n_int (i : Int) (k : D → Prop) : (isW (.int i) .non k) = (k (.bl false)) := Eq.trans rfl rfl
theorem x_isnW_n_int (i : Int) (k : D → Prop) : (isnW (.int i) .non k) = (k (.bl true)) := Eq.trans rfl rfl
theorem x_isPl_int (i : Int)  : (isPl (.int i)) = (True) := Eq.trans rfl rfl
theorem x_isiB_int_int (i : Int)  : (isiB (.int i) .int) = (true) := Eq.trans rfl rfl
theorem x_isiB_int_bool (i : Int)  : (isiB (.int i) .bool) = (false) := Eq.trans rfl rfl
theorem x_isiB_int_tuple (i : Int)  : (isiB (.int i) .tuple) = (false) := Eq.trans rfl rfl
theorem x_isiB_int_str (i : Int)  : (isiB (.int i) .str) = (false) := Eq.trans rfl rfl
theorem x_isW_n_str (x : Str) (k : D → Prop) : (isW (.str x) .non k) = (k (.bl false)) := Eq.trans rfl rfl
theorem x_isnW_n_str (x : Str) (k : D → Prop) : (isnW (.str x) .non k) = (k (.bl true)) := Eq.trans rfl rfl
theorem x_isPl_str (x : Str)  : (isPl (.str x)) = (True) := Eq.trans rfl rfl
theorem x_isiB_str_int (x : Str)  : (isiB (.str x) .int) = (false) := Eq.trans rfl rfl
theorem x_isiB_str_bool (x : Str)  : (isiB (.str x) .bool) = (false) := Eq.trans rfl rfl
theorem x_isiB_str_tuple (x : Str)  : (isiB (.str x) .tuple) = (false) := Eq.trans rfl rfl
theorem x_isiB_str_str (x : Str)  : (isiB (.str x) .str) = (true) := Eq.trans rfl rfl
theorem x_isW_n_tup (xs : List D) (k : D → Prop) : (isW (.tup xs) .non k) = (k (.bl false)) := Eq.trans rfl rfl
theorem x_isnW_n_tup (xs : List D) (k : D → Prop) : (isnW (.tup xs) .non k) = (k (.bl true)) := Eq.trans rfl rfl
theorem x_isPl_tup (xs : List D)  : (isPl (.tup xs)) = (True) := Eq.trans rfl rfl
theorem x_isiB_tup_int (xs : List D)  : (isiB (.tup xs) .int) = (false) := Eq.trans rfl rfl
theorem x_isiB_tup_bool (xs : List D)  : (isiB (.tup xs) .bool) = (false) := Eq.trans rfl rfl
theorem x_isiB_tup_tuple (xs : List D)  : (isiB (.tup xs) .tuple) = (true) := Eq.trans rfl rfl
theorem x_isiB_tup_str (xs : List D)  : (isiB (.tup xs) .str) = (false) := Eq.trans rfl rfl
theorem x_isW_n_lst (xs : List D) (k : D → Prop) : (isW (.lst xs) .non k) = (k (.bl false)) := Eq.trans rfl rfl
theorem x_isnW_n_lst (xs : List D) (k : D → Prop) : (isnW (.lst xs) .non k) = (k (.bl true)) := Eq.trans rfl rfl
theorem x_isPl_lst (xs : List D)  : (isPl (.lst xs)) = (True) := Eq.trans rfl rfl
theorem x_isiB_lst_int (xs : List D)  : (isiB (.lst xs) .int) = (false) := Eq.trans rfl rfl
theorem x_isiB_lst_bool (xs : List D)  : (isiB (.lst xs) .bool) = (false) := Eq.trans rfl rfl
theorem x_isiB_lst_tuple (xs : List D)  : (isiB (.lst xs) .tuple) = (false) := Eq.trans rfl rfl
theorem x_isiB_lst_str (xs : List D)  : (isiB (.lst xs) .str) = (false) := Eq.trans rfl rfl
theorem x_isPl_row  : (isPl .row) = (False) := Eq.trans rfl rfl
theorem x_isPl_dI (k : List (Int × D)) : (isPl (.dI k)) = (False) := Eq.trans rfl rfl
theorem x_isPl_dT (k : List (List Int × D)) : (isPl (.dT k)) = (False) := Eq.trans rfl rfl
theorem x_isiW_e (t : Ty) (d : D) (k : D → Prop) : (isiW t d k) = ((isPl d ∧ k (.bl (isiB d t)))) := Eq.trans rfl rfl
theorem x_eqW_e (d e : D) (k : D → Prop) : (eqW d e k) = (((Sh 9 d ∧ Sh 9 e) ∧ k (.bl (eqD d e)))) := Eq.trans rfl rfl
theorem x_neW_e (d e : D) (k : D → Prop) : (neW d e k) = (((Sh 9 d ∧ Sh 9 e) ∧ k (.bl (!eqD d e)))) := Eq.trans rfl rfl
theorem x_truW_b (b : Bool) (k : Bool → Prop) : (truW (.bl b) k) = (k b) := Eq.trans rfl rfl
theorem x_truW_i (i : Int) (k : Bool → Prop) : (truW (.int i) k) = (k (i != 0)) := Eq.trans rfl rfl
theorem x_truW_l (xs : List D) (k : Bool → Prop) : (truW (.lst xs) k) = (k (!xs.isEmpty)) := Eq.trans rfl rfl
theorem x_truW_t (xs : List D) (k : Bool → Prop) : (truW (.tup xs) k) = (k (!xs.isEmpty)) := Eq.trans rfl rfl
theorem x_truW_n (k : Bool → Prop) : (truW .non k) = (k false) := Eq.trans rfl rfl
theorem x_ixS_l (xs : List D) (i : Int) (k : D → Prop) : (ixS (.lst xs) (.int i) k) = (okO (atD xs i) k) := Eq.trans rfl rfl
theorem x_ixS_t (xs : List D) (i : Int) (k : D → Prop) : (ixS (.tup xs) (.int i) k) = (okO (atD xs i) k) := Eq.trans rfl rfl
theorem x_okO_s {α : Type} (a : α) (k : α → Prop) : (okO (some a) k) = (k a) := Eq.trans rfl rfl
theorem x_slT_t (lo hi : Option Int) (xs : List D) (k : D → Prop) : (slT lo hi (.tup xs) k) = (k (.tup (cutD xs lo hi))) := Eq.trans rfl rfl
theorem x_slL_l (lo hi : Option Int) (xs : List D) (k : List D → Prop) : (slL lo hi (.lst xs) k) = (k (cutD xs lo hi)) := Eq.trans rfl rfl
theorem x_len1_l (xs : List D) (k : D → Prop) : (len1 [.lst xs] k) = (k (.int xs.length)) := Eq.trans rfl rfl
theorem x_len1_t (xs : List D) (k : D → Prop) : (len1 [.tup xs] k) = (k (.int xs.length)) := Eq.trans rfl rfl
theorem x_max2_i (i j : Int) (k : D → Prop) : (max2 [.int i, .int j] k) = (k (.int (max i j))) := Eq.trans rfl rfl
theorem x_min2_i (i j : Int) (k : D → Prop) : (min2 [.int i, .int j] k) = (k (.int (min i j))) := Eq.trans rfl rfl
theorem x_abs1_i (i : Int) (k : D → Prop) : (abs1 [.int i] k) = (k (.int (i.natAbs : Int))) := Eq.trans rfl rfl
theorem x_int1_i (i : Int) (k : D → Prop) : (int1 [.int i] k) = (k (.int i)) := Eq.trans rfl rfl
theorem x_max1_l (xs : List D) (k : D → Prop) : (max1 [.lst xs] k) = ((∃ ns : List Int, xs = ns.map D.int ∧ ns ≠ [] ∧ ∀ m, m ∈ ns → (∀ y ∈ ns, y ≤ m) → k (.int m))) := Eq.trans rfl rfl
theorem x_min1_l (xs : List D) (k : D → Prop) : (min1 [.lst xs] k) = ((∃ ns : List Int, xs = ns.map D.int ∧ ns ≠ [] ∧ ∀ m, m ∈ ns → (∀ y ∈ ns, m ≤ y) → k (.int m))) := Eq.trans rfl rfl
theorem x_sum1_l (xs : List D) (k : D → Prop) : (sum1 [.lst xs] k) = ((∃ ns : List Int, xs = ns.map D.int ∧ k (.int ns.sum))) := Eq.trans rfl rfl
theorem x_all1_l (xs : List D) (k : D → Prop) : (all1 [.lst xs] k) = ((∃ bs : List Bool, xs = bs.map D.bl ∧ k (.bl (bs.all id)))) := Eq.trans rfl rfl
theorem x_any1_l (xs : List D) (k : D → Prop) : (any1 [.lst xs] k) = ((∃ bs : List Bool, xs = bs.map D.bl ∧ k (.bl (bs.any id)))) := Eq.trans rfl rfl
theorem x_tuple1_l (xs : List D) (k : D → Prop) : (tuple1 [.lst xs] k) = (k (.tup xs)) := Eq.trans rfl rfl
theorem x_tuple1_t (xs : List D) (k : D → Prop) : (tuple1 [.tup xs] k) = (k (.tup xs)) := Eq.trans rfl rfl
theorem x_list1_l (xs : List D) (k : List D → Prop) : (list1 [.lst xs] k) = (k xs) := Eq.trans rfl rfl
theorem x_list1_t (xs : List D) (k : List D → Prop) : (list1 [.tup xs] k) = (k xs) := Eq.trans rfl rfl
theorem x_itW_l (xs : List D) (k : List D → Prop) : (itW (.lst xs) k) = (k xs) := Eq.trans rfl rfl
theorem x_itW_t (xs : List D) (k : List D → Prop) : (itW (.tup xs) k) = (k xs) := Eq.trans rfl rfl
theorem x_rg1_i (j : Int) (k : List D → Prop) : (rg1 (.int j) k) = ((RgOk 0 j ∧ k (rngD 0 j.toNat))) := Eq.trans rfl rfl
theorem x_rg2_i (i j : Int) (k : List D → Prop) : (rg2 (.int i) (.int j) k) = ((RgOk i j ∧ k (rngD i (j - i).toNat))) := Eq.trans rfl rfl
theorem x_rg3_m (i j : Int) (k : List D → Prop) : (rg3 (.int i) (.int j) (.int (-1)) k) = ((RgOk i j ∧ k (rngC i (-1) (i - j).toNat))) := Eq.trans rfl rfl
theorem x_rg3_2 (i j : Int) (k : List D → Prop) : (rg3 (.int i) (.int j) (.int 2) k) = ((RgOk i j ∧ k (rngC i 2 ((j - i + 1) / 2).toNat))) := Eq.trans rfl rfl
theorem x_val_dat (d : D) : (SV.val (.dat d)) = (some d) := Eq.trans rfl rfl
theorem x_val_own (xs : List D) : (SV.val (.own xs)) = (some (.lst xs)) := Eq.trans rfl rfl
theorem x_val_un  : (SV.val .un) = (none) := Eq.trans rfl rfl
theorem x_val_ownI (k : List (Int × D)) : (SV.val (.ownI k)) = (some (.dI k)) := Eq.trans rfl rfl
theorem x_okV_dat (S : Sl) (d : D) (k : D → Prop) : (okV S (.dat d) k) = (k d) := Eq.trans rfl rfl
theorem x_okV_slot (S : Sl) (i : Nat) (k : D → Prop) : (okV S (.slot i) k) = (okO (getS S i).val k) := by rw [okV_slot]
theorem x_okVs_n (S : Sl) (k : List D → Prop) : (okVs S [] k) = (k []) := Eq.trans rfl rfl
theorem x_okVs_c (S : Sl) (x : Src) (xs : List Src) (k : List D → Prop) : (okVs S (x :: xs) k) = (okV S x fun d => okVs S xs fun ds => k (d :: ds)) := Eq.trans rfl rfl
theorem x_getS_0 (x : SV) (S : Sl) : (getS (x :: S) 0) = (x) := Eq.trans rfl rfl
theorem x_getS_s (x : SV) (S : Sl) (i : Nat) : (getS (x :: S) (i + 1)) = (getS S i) := Eq.trans rfl rfl
theorem x_wVar_e (i : Nat) (S : Sl) (R : D → Sl → Prop) : (wVar i S R) = (varS (getS S i) i S R) := Eq.trans rfl rfl
theorem x_varS_dat (d : D) (i : Nat) (S : Sl) (R : D → Sl → Prop) : (varS (.dat d) i S R) = (R d S) := Eq.trans rfl rfl
theorem x_varS_own (xs : List D) (i : Nat) (S : Sl) (R : D → Sl → Prop) : (varS (.own xs) i S R) = (R (.lst xs) (S.set i (.dat (.lst xs)))) := Eq.trans rfl rfl
theorem x_varS_ownI (xs : List (Int × D)) (i : Nat) (S : Sl) (R : D → Sl → Prop) : (varS (.ownI xs) i S R) = (R (.dI xs) (S.set i (.dat (.dI xs)))) := Eq.trans rfl rfl
theorem x_wSlot_e (i : Nat) (S : Sl) (R : Src → Sl → Prop) : (wSlot i S R) = (slotS (getS S i).val i S R) := Eq.trans rfl rfl
theorem x_slotS_s (d : D) (i : Nat) (S : Sl) (R : Src → Sl → Prop) : (slotS (some d) i S R) = (R (.slot i) S) := Eq.trans rfl rfl
theorem x_tBl_e (t : WE) (S : Sl) (R : Bool → Sl → Prop) : (tBl t S R) = (t S fun d S1 => blS d fun b => R b S1) := Eq.trans rfl rfl
theorem x_blS_b (b : Bool) (k : Bool → Prop) : (blS (.bl b) k) = (k b) := Eq.trans rfl rfl
theorem x_wAndV_e (ta tb : WE) (S : Sl) (R : D → Sl → Prop) : (wAndV ta tb S R) = (ta S fun d S1 => blS d fun c => if c = true then tb S1 R else R (.bl false) S1) := Eq.trans rfl rfl
theorem x_wOrV_e (ta tb : WE) (S : Sl) (R : D → Sl → Prop) : (wOrV ta tb S R) = (ta S fun d S1 => blS d fun c => if c = true then R (.bl true) S1 else tb S1 R) := Eq.trans rfl rfl
theorem x_wNotV_e (ta : WE) (S : Sl) (R : D → Sl → Prop) : (wNotV ta S R) = (ta S fun d S1 => blS d fun c => R (.bl (!c)) S1) := Eq.trans rfl rfl
theorem x_wChain_e (r r' : D → D → (D → Prop) → Prop) (ta tb tc : WE) (S : Sl) (R : D → Sl → Prop) : (wChain r r' ta tb tc S R) = (ta S fun x S1 => tb S1 fun y S2 => r x y fun z => blS z fun c => if c = true then tc S2 fun w S3 => r' y w fun z' => R z' S3 else R (.bl false) S2) := Eq.trans rfl rfl
theorem x_bTup_t (n : Nat) (g : WGs) (xs : List D) (S : Sl) (R : Sl → Prop) : (bTup n g (.tup xs) S R) = ((xs.length = n ∧ g xs S R)) := Eq.trans rfl rfl
theorem x_bNil_n (S : Sl) (R : Sl → Prop) : (bNil [] S R) = (R S) := Eq.trans rfl rfl
theorem x_bCons_c (g : WG) (u : WGs) (d : D) (r : List D) (S : Sl) (R : Sl → Prop) : (bCons g u (d :: r) S R) = (g d S fun S1 => u r S1 R) := Eq.trans rfl rfl
theorem x_sAug_e (i : Nat) (r : D → D → (D → Prop) → Prop) (t : WE) (E : En) (S : Sl) : (sAug i r t E S) = (t S fun e S1 => augS (getS S1 i) fun d => r d e fun z => E.nx (S1.set i (.dat z))) := Eq.trans rfl rfl
theorem x_augS_d (d : D) (k : D → Prop) : (augS (.dat d) k) = (k d) := Eq.trans rfl rfl
theorem x_wOS_e (t : WE) (S : Sl) (R : Option Int → Sl → Prop) : (wOS t S R) = (t S fun d S1 => intS d fun i => R (some i) S1) := Eq.trans rfl rfl
theorem x_intS_i (i : Int) (k : Int → Prop) : (intS (.int i) k) = (k i) := Eq.trans rfl rfl
theorem x_ownS_o (xs : List D) (k : List D → Prop) : (ownS (.own xs) k) = (k xs) := Eq.trans rfl rfl
theorem x_lstS_l (xs : List D) (k : List D → Prop) : (lstS (.lst xs) k) = (k xs) := Eq.trans rfl rfl
theorem x_forD_n (g : WG) (b : WS) (E : En) (S : Sl) : (forD g b E [] S) = (E.nx S) := Eq.trans rfl rfl
theorem x_lcD_n (st : D → (Option D → Prop) → Prop) (k : List D → Prop) : (lcD st [] k) = (k []) := Eq.trans rfl rfl
theorem x_lcD_c (st : D → (Option D → Prop) → Prop) (x : D) (xs : List D) (k : List D → Prop) : (lcD st (x :: xs) k) = (st x fun o => lcD st xs fun r => k (o.toList ++ r)) := Eq.trans rfl rfl
theorem x_sh_un  : (SV.shared .un) = (true) := Eq.trans rfl rfl
theorem x_sh_dat (d : D) : (SV.shared (.dat d)) = (true) := Eq.trans rfl rfl
theorem x_sRaise_e (EX : Str → Prop) (t : WE) (E : En) (S : Sl) : (sRaise EX t E S) = (t S fun d _ => strS d fun nm => EX nm) := Eq.trans rfl rfl
theorem x_strS_s (x : Str) (k : Str → Prop) : (strS (.str x) k) = (k x) := Eq.trans rfl rfl
theorem x_hideV_d (d : D) : (hideV (.dat d)) = (.dat d) := Eq.trans rfl rfl
theorem x_hideV_u  : (hideV .un) = (.un) := Eq.trans rfl rfl
theorem x_hideV_o (xs : List D) : (hideV (.own xs)) = (.un) := Eq.trans rfl rfl
theorem y_sSeq (t u : WS) (E : En) (S : Sl) : (sSeq t u E S) = (t { E with nx := u E } S) := Eq.trans rfl rfl
theorem y_sNext (E : En) (S : Sl) : (sNext E S) = (E.nx S) := Eq.trans rfl rfl
theorem y_sRet (t : WE) (E : En) (S : Sl) : (sRet t E S) = ((t S fun d _ => E.rt d)) := Eq.trans rfl rfl
theorem y_sDrop (t : WE) (E : En) (S : Sl) : (sDrop t E S) = ((t S fun _ S1 => E.nx S1)) := Eq.trans rfl rfl
theorem y_sIf (c : WT) (t u : WS) (E : En) (S : Sl) : (sIf c t u E S) = ((c S fun b S1 => if b = true then t E S1 else u E S1)) := Eq.trans rfl rfl
theorem y_sBreak (E : En) (S : Sl) : (sBreak E S) = (E.bk S) := Eq.trans rfl rfl
theorem y_sSet (i : Nat) (t : WN) (E : En) (S : Sl) : (sSet i t E S) = ((t S fun x S1 => E.nx (S1.set i x))) := Eq.trans rfl rfl
theorem y_sAsg (t : WE) (g : WG) (E : En) (S : Sl) : (sAsg t g E S) = ((t S fun d S1 => g d S1 E.nx)) := Eq.trans rfl rfl
theorem y_sPar (is : List Nat) (t : WNs) (E : En) (S : Sl) : (sPar is t E S) = ((t S fun xs S1 => xs.length = is.length ∧ E.nx (setAll is xs S1))) := Eq.trans rfl rfl
theorem y_setAll_c (i : Nat) (is : List Nat) (x : SV) (xs : List SV) (S : Sl) : (setAll (i :: is) (x :: xs) S) = (setAll is xs (S.set i x)) := Eq.trans rfl rfl
theorem y_setAll_n (S : Sl) : (setAll [] [] S) = (S) := Eq.trans rfl rfl
theorem y_sAug' (i : Nat) (r : D → D → (D → Prop) → Prop) (t : WE) (E : En) (S : Sl) : (sAug' i r t E S) = (((∃ d, getS S i = .dat d) ∧ sAug i r t E S)) := Eq.trans rfl rfl
theorem y_sFor (w : WI) (g : WG) (b : WS) (E : En) (S : Sl) : (sFor w g b E S) = ((w S fun dep xs S1 => dep = [] ∧ forD g b E xs S1)) := Eq.trans rfl rfl
theorem y_wC (d : D) (S : Sl) (R : D → Sl → Prop) : (wC d S R) = (R d S) := Eq.trans rfl rfl
theorem y_wD (t : WE) (S : Sl) (R : Src → Sl → Prop) : (wD t S R) = ((t S fun d S1 => R (.dat d) S1)) := Eq.trans rfl rfl
theorem y_wSs0 (S : Sl) (R : List Src → Sl → Prop) : (wSs0 S R) = (R [] S) := Eq.trans rfl rfl
theorem y_wSs (t : WSr) (u : WSrs) (S : Sl) (R : List Src → Sl → Prop) : (wSs t u S R) = ((t S fun x S1 => u S1 fun xs S2 => R (x :: xs) S2)) := Eq.trans rfl rfl
theorem y_wA0 (S : Sl) (R : List D → Sl → Prop) : (wA0 S R) = (R [] S) := Eq.trans rfl rfl
theorem y_wAs (t : WE) (u : WA) (S : Sl) (R : List D → Sl → Prop) : (wAs t u S R) = ((t S fun x S1 => u S1 fun xs S2 => R (x :: xs) S2)) := Eq.trans rfl rfl
theorem y_wOp (r : D → D → (D → Prop) → Prop) (ta tb : WSr) (S : Sl) (R : D → Sl → Prop) : (wOp r ta tb S R) = ((ta S fun x S1 => tb S1 fun y S2 => okV S2 x fun d => okV S2 y fun e => r d e fun z => R z S2)) := Eq.trans rfl rfl
theorem y_wUn (r : D → (D → Prop) → Prop) (ta : WSr) (S : Sl) (R : D → Sl → Prop) : (wUn r ta S R) = ((ta S fun x S1 => okV S1 x fun d => r d fun z => R z S1)) := Eq.trans rfl rfl
theorem y_wB (r : List D → (D → Prop) → Prop) (ta : WSrs) (S : Sl) (R : D → Sl → Prop) : (wB r ta S R) = ((ta S fun xs S1 => okVs S1 xs fun ds => r ds fun z => R z S1)) := Eq.trans rfl rfl
theorem y_wOpL (r : D → D → (List D → Prop) → Prop) (ta tb : WSr) (S : Sl) (R : List D → Sl → Prop) : (wOpL r ta tb S R) = ((ta S fun x S1 => tb S1 fun y S2 => okV S2 x fun d => okV S2 y fun e => r d e fun z => R z S2)) := Eq.trans rfl rfl
theorem y_wBL (r : List D → (List D → Prop) → Prop) (ta : WSrs) (S : Sl) (R : List D → Sl → Prop) : (wBL r ta S R) = ((ta S fun xs S1 => okVs S1 xs fun ds => r ds fun z => R z S1)) := Eq.trans rfl rfl
theorem y_wLst (ta : WA) (S : Sl) (R : List D → Sl → Prop) : (wLst ta S R) = ((ta S fun ds S1 => ds.length ≤ 1000000 ∧ R ds S1)) := Eq.trans rfl rfl
theorem y_wFz (t : WL) (S : Sl) (R : D → Sl → Prop) : (wFz t S R) = ((t S fun xs S1 => R (.lst xs) S1)) := Eq.trans rfl rfl
theorem y_wTup (ta : WA) (S : Sl) (R : D → Sl → Prop) : (wTup ta S R) = ((ta S fun ds S1 => ds.length ≤ 1000000 ∧ R (.tup ds) S1)) := Eq.trans rfl rfl
theorem y_wCall (s : DSp) (EX : Str → Prop) (ta : WA) (S : Sl) (R : D → Sl → Prop) : (wCall s EX ta S R) = ((ta S fun ds S1 => s ds (fun z => R z S1) EX)) := Eq.trans rfl rfl
theorem y_wIf (t : WT) (a b : WE) (S : Sl) (R : D → Sl → Prop) : (wIf t a b S R) = ((t S fun c S1 => if c = true then a S1 R else b S1 R)) := Eq.trans rfl rfl
theorem y_wNd (t : WE) (S : Sl) (R : SV → Sl → Prop) : (wNd t S R) = ((t S fun d S1 => R (.dat d) S1)) := Eq.trans rfl rfl
theorem y_wNo (t : WL) (S : Sl) (R : SV → Sl → Prop) : (wNo t S R) = ((t S fun xs S1 => R (.own xs) S1)) := Eq.trans rfl rfl
theorem y_wNs0 (S : Sl) (R : List SV → Sl → Prop) : (wNs0 S R) = (R [] S) := Eq.trans rfl rfl
theorem y_wNs (t : WN) (u : WNs) (S : Sl) (R : List SV → Sl → Prop) : (wNs t u S R) = ((t S fun x S1 => u S1 fun xs S2 => R (x :: xs) S2)) := Eq.trans rfl rfl
theorem y_tTru (t : WSr) (S : Sl) (R : Bool → Sl → Prop) : (tTru t S R) = ((t S fun x S1 => okV S1 x fun d => truW d fun b => R b S1)) := Eq.trans rfl rfl
theorem y_tAnd (t u : WT) (S : Sl) (R : Bool → Sl → Prop) : (tAnd t u S R) = ((t S fun c S1 => if c = true then u S1 R else R false S1)) := Eq.trans rfl rfl
theorem y_tOr (t u : WT) (S : Sl) (R : Bool → Sl → Prop) : (tOr t u S R) = ((t S fun c S1 => if c = true then R true S1 else u S1 R)) := Eq.trans rfl rfl
theorem y_tNot (t : WT) (S : Sl) (R : Bool → Sl → Prop) : (tNot t S R) = ((t S fun c S1 => R (!c) S1)) := Eq.trans rfl rfl
theorem y_wNotT (t : WSr) (S : Sl) (R : D → Sl → Prop) : (wNotT t S R) = ((t S fun x S1 => okV S1 x fun d => truW d fun b => R (.bl (!b)) S1)) := Eq.trans rfl rfl
theorem y_bName (i : Nat) (d : D) (S : Sl) (R : Sl → Prop) : (bName i d S R) = (R (S.set i (.dat d))) := Eq.trans rfl rfl
theorem y_iSeq (t : WSr) (S : Sl) (R : List Nat → List D → Sl → Prop) : (iSeq t S R) = ((t S fun x S1 => okV S1 x fun d => itW d fun xs => R (depS x) xs S1)) := Eq.trans rfl rfl
theorem y_iR1 (a : WE) (S : Sl) (R : List Nat → List D → Sl → Prop) : (iR1 a S R) = ((a S fun x S1 => rg1 x fun xs => R [] xs S1)) := Eq.trans rfl rfl
theorem y_iR2 (a b : WE) (S : Sl) (R : List Nat → List D → Sl → Prop) : (iR2 a b S R) = ((a S fun x S1 => b S1 fun y S2 => rg2 x y fun xs => R [] xs S2)) := Eq.trans rfl rfl
theorem y_iR3 (a b c : WE) (S : Sl) (R : List Nat → List D → Sl → Prop) : (iR3 a b c S R) = ((a S fun x S1 => b S1 fun y S2 => c S2 fun z S3 => rg3 x y z fun xs => R [] xs S3)) := Eq.trans rfl rfl
theorem y_iEnum (t : WSr) (S : Sl) (R : List Nat → List D → Sl → Prop) : (iEnum t S R) = ((t S fun x S1 => okV S1 x fun d => itW d fun xs => R (depS x) (enumD xs) S1)) := Eq.trans rfl rfl
theorem y_iZip (t u : WSr) (S : Sl) (R : List Nat → List D → Sl → Prop) : (iZip t u S R) = ((t S fun x S1 => u S1 fun y S2 => okV S2 x fun d => okV S2 y fun e => itW d fun xs => itW e fun ys => R (depS x ++ depS y) (zipD xs ys) S2)) := Eq.trans rfl rfl
theorem y_depS_d (d : D) : (depS (.dat d)) = ([]) := Eq.trans rfl rfl
theorem y_depS_s (i : Nat) : (depS (.slot i)) = ([i]) := Eq.trans rfl rfl
theorem y_wLc (w : WI) (g : WG) (t : WTs) (e : WE) (vs : List Nat) (S : Sl) (R : List D → Sl → Prop) : (wLc w g t e vs S R) = ((w S fun dep xs S1 => (dep.all fun i => !vs.contains i) = true ∧ (vs.all fun v => (getS S1 v).shared) = true ∧ lcD (lcStep g t e vs (wipeS S1 vs)) xs fun r => R r S1)) := Eq.trans rfl rfl
theorem y_wIsi (ty : Ty) (t : WSr) (S : Sl) (R : D → Sl → Prop) : (wIsi ty t S R) = ((t S fun x S1 => okV S1 x fun d => isiW ty d fun z => R z S1)) := Eq.trans rfl rfl
theorem y_wON (S : Sl) (R : Option Int → Sl → Prop) : (wON S R) = (R none S) := Eq.trans rfl rfl
theorem y_wSlT (t : WSr) (lo hi : WO) (S : Sl) (R : D → Sl → Prop) : (wSlT t lo hi S R) = ((t S fun x S1 => lo S1 fun i S2 => hi S2 fun j S3 => okV S3 x fun d => slT i j d fun z => R z S3)) := Eq.trans rfl rfl
theorem y_wSlL (t : WSr) (lo hi : WO) (S : Sl) (R : List D → Sl → Prop) : (wSlL t lo hi S R) = ((t S fun x S1 => lo S1 fun i S2 => hi S2 fun j S3 => okV S3 x fun d => slL i j d fun z => R z S3)) := Eq.trans rfl rfl
theorem y_ts0 (S : Sl) (R : Bool → Sl → Prop) : (ts0 S R) = (R true S) := Eq.trans rfl rfl
theorem y_lcStep (g : WG) (t : WTs) (e : WE) (vs : List Nat) (S : Sl) (x : D) (k : Option D → Prop) : (lcStep g t e vs S x k) = ((g x S fun S1 => (wipeS S1 vs = S ∧ (vs.all fun v => (getS S1 v).shared) = true) ∧ t S1 fun b S2 => S2 = S1 ∧ if b = true then e S1 fun z S3 => S3 = S1 ∧ k (some z) else k none)) := Eq.trans rfl rfl
theorem y_wipeS_n (S : Sl) : (wipeS S []) = (S) := Eq.trans rfl rfl
theorem y_wipeS_c (S : Sl) (v : Nat) (vs : List Nat) : (wipeS S (v :: vs)) = ((wipeS S vs).set v .un) := Eq.trans rfl rfl
theorem y_wRef (t : (Str → Prop) → WE) (S : Sl) (R : D → Sl → Prop) : (wRef t S R) = ((t (fun nm => R (.str nm) S) (hideS S) fun _ _ => R (.str "") S)) := Eq.trans rfl rfl
theorem y_hideS_n  : (hideS []) = ([]) := Eq.trans rfl rfl
theorem y_hideS_c (x : SV) (S : Sl) : (hideS (x :: S)) = (hideV x :: hideS S) := Eq.trans rfl rfl
theorem y_wCallK (s : DSp) (EX : Str → Prop) (n m : Nat) (ta tk : WA) (S : Sl) (R : D → Sl → Prop) : (wCallK s EX n m ta tk S R) = ((ta S fun ds S1 => tk S1 fun es S2 => ds.length = n ∧ es.length = m ∧ s (ds ++ es) (fun z => R z S2) EX)) := Eq.trans rfl rfl
theorem y_sAppend (i : Nat) (t : WE) (E : En) (S : Sl) : (sAppend i t E S) = ((ownS (getS S i) fun _ => t S fun d S1 => ownS (getS S1 i) fun xs => xs.length < 1000000 ∧ E.nx (S1.set i (.own (xs ++ [d]))))) := Eq.trans rfl rfl
theorem y_sExtend (i : Nat) (t : WE) (E : En) (S : Sl) : (sExtend i t E S) = ((ownS (getS S i) fun _ => t S fun d S1 => ownS (getS S1 i) fun xs => lstS d fun ys => xs.length + ys.length ≤ 1000000 ∧ E.nx (S1.set i (.own (xs ++ ys))))) := Eq.trans rfl rfl
theorem y_sStore (i : Nat) (tk t : WE) (E : En) (S : Sl) : (sStore i tk t E S) = ((t S fun d S1 => ownS (getS S1 i) fun _ => tk S1 fun k S2 => ownS (getS S2 i) fun xs => intS k fun j => ∃ m, ixD xs.length j = some m ∧ E.nx (S2.set i (.own (xs.set m d))))) := Eq.trans rfl rfl
theorem y_wUnL (r : D → (List D → Prop) → Prop) (ta : WSr) (S : Sl) (R : List D → Sl → Prop) : (wUnL r ta S R) = ((ta S fun x S1 => okV S1 x fun d => r d fun z => R z S1)) := Eq.trans rfl rfl
theorem x_set0 (x y : SV) (S : Sl) : List.set (x :: S) 0 y = y :: S := Eq.trans rfl rfl
theorem x_setS (x y : SV) (S : Sl) (i : Nat) : List.set (x :: S) (i + 1) y = x :: List.set S i y := Eq.trans rfl rfl
end DL

set_option Elab.async false
set_option linter.all false
set_option maxRecDepth 100000
set_option maxHeartbeats 4000000
/-! Errors raised and caught, lambdas. -/
namespace DL
open PySem PySem.Spec PyProof.Rows L2
section
variable {X : Cx} {c : Cd} {EX : Str → Prop} {k : Nat} {e : Expr} {es : List Expr} {pos : Pos}
theorem s_raise {fI : Addr} {t : WE} {p pos pos2 : Pos} (B : Ctx X c EX k) (T : PySem.LowX.LowTxt X.K X.mg c.CB fI) (he : DE X c e t) (hg : Gl X "BadArgument" := by rfl)
    (h1 : starEach (e :: []) X.env = (false, eval e X.env) :: starEach [] X.env := by rfl) (hpl : (backTo pos (starEach [] X.env)).any (·.1) = false := by rfl) : DSt X c (.Raise (some (.Call (.Name "BadArgument" p) [e] [] pos)) none pos2) (sRaise EX t) := (ps_raiseLow B.calm T B.room B.tk (pa_cons he pa_nil h1) hg h1 hpl).imp fun D σ H h => by
  obtain ⟨F, S, E, r, h, k⟩ := h
  refine ⟨F, S, _, r, h, fun d S1 v F1 H1 q n1 r1 rv => ⟨v, rfl, fun dd hd => ?_⟩⟩
  cases d with
  | str nm =>
    have e : v = .str nm := rv
    subst e
    have l : Le H1 (upd H1 dd (.xd [(("name" : Str), .str nm)])) := upd_le hd
    exact ⟨nm, dd, rfl, rfl, upd_same, r1.keep.trans (.of l), r1.amb.grow l, q⟩
  | _ => exact (show False from q).elim
end
/-! ### what a lambda lets out is caught -/
def TRef (CB : Addr) : (XK → Hp → VK → Prop) → Hp → VK → Prop := fun tl H Q =>
  tl (fun cls d H' => cls = .ref CB ∧ ∃ dd nm, d = some dd ∧ H' dd = some (.xd [(("name" : Str), .str nm)]) ∧ Q (.str nm) H') H (fun _ H' => Q (.str "") H')
section
variable {X : Cx}
theorem ref_gives {q : Str} {sg : Scope} {g CB fI : Addr} {cdg : Value} {j : Nat} {p1 p2 p3 p4 p5 p6 p7 p8 p9 p10 p11 : Pos} (T : PySem.LowX.LowTxt X.K X.mg CB fI) (hge : sg.names.lookup ("BadArgument" : Str) = some .globalImplicit) (hle : sg.names.lookup ("e" : Str) = some .local) :
    LamX.GivesTo X ["call", "e"] "_law_refused" sg g cdg [.Try [.Expr (.Call (.Name "call" p1) [] [] p2) p3] [.ExceptHandler (some (.Name "BadArgument" p4)) (some "e") [.Return (some (.Attribute (.Name "e" p5) "name" p6)) p7] p8] [] [] p9, .Return (some (.Constant (.str "") j p10)) p11] "call" q (TRef CB) := by
  intro f c' s H Q tl act hc h
  have hgl : Gl (cxOf C8.CX0 X.prog X.w X.K X.mg X.base ["call", "e"] "_law_refused" sg g cdg X.A X.stack s H C8.E0).nox "BadArgument" := hge
  refine ⟨_, pss_cons (ps_try_as (X := (cxOf C8.CX0 X.prog X.w X.K X.mg X.base ["call", "e"] "_law_refused" sg g cdg X.A X.stack s H C8.E0).nox) (c := .ref CB) (i := 1)
      (tb := fun W D σ H => ∃ Ech : XK, (∀ cls d σ' H', Ech cls d H' → W cls d σ' H') ∧ σ[0]? = some (some (.ref f)) ∧ H c' = some (LamX.CodeO c' q) ∧ tl Ech H fun _ H' => D.nx σ H')
      (ts := fun a cls d D σ H => (∃ σ0 : Sg, σ = σ0.set 1 (some (V.ref a))) ∧ cls = .ref CB ∧ ∃ dd nm, d = some dd ∧ H dd = some (.xd [(("name" : Str), .str nm)]) ∧ D.rt (.str nm) H) (Wout := fun _ _ _ _ => False)
      rfl rfl (show (["call", "e"] : List Str).Nodup by decide) rfl hle ⟨hgl, rfl, .inl T.gC⟩ L2.takes0 (fun W pn xe tk _ => ?_) (fun a oe cls d pn hz hf => ⟨fun pins s' σ' H' D I h' => ?_⟩)) (pss_one (ps_ret pe_str)), ?_⟩
  · refine ⟨fun pins s' σ H' D I h' => ?_⟩
    obtain ⟨Ech, hW, h1, h2, h3⟩ := h'
    have hp := act W pn xe Ech p1 p2 tk hW
    have hq := pss_one (ps_expr (pos := p3) hp)
    exact hq.run pins s' σ H' D I ⟨h1, h2, h3⟩
  · have base := pss_one (ps_ret (pos := p7) (pe_byLow (pos := p6) (a := a) (pn := pn) (X := (cxOf C8.CX0 X.prog X.w X.K X.mg X.base ["call", "e"] "_law_refused" sg g cdg X.A X.stack s H C8.E0).nox) T hz hf (pe_var (pos := p5) (x := "e") (i := 1) rfl (.inl hle))))
    obtain ⟨⟨σ0, eσ⟩, e1, dd, nm, e2, e3, e4⟩ := h'
    have hl : σ0.length = 2 := by
      have := I.len
      rw [eσ, List.length_set] at this
      exact this
    exact base.run pins s' σ' H' D I ⟨_, by rw [eσ, List.getElem?_set_self (by omega)], rfl, e1, dd, _, e2, e3, e4⟩
  · refine ⟨fun cls d H' => cls = .ref CB ∧ ∃ dd nm, d = some dd ∧ H' dd = some (.xd [(("name" : Str), .str nm)]) ∧ Q (.str nm) H', fun cls d σ' H' ⟨e1, dd, nm, e2, e3, e4⟩ => ?_, rfl, hc, h⟩
    subst e1 e2
    refine ⟨true, T.te, fun _ a ha => ?_, fun z => Bool.noConfusion z⟩
    exact ⟨⟨σ', rfl⟩, rfl, dd, nm, rfl, e3, e4⟩
end
theorem getS_hide {S : Sl} {j : Nat} : getS (hideS S) j = hideV (getS S j) := by
  unfold getS hideS
  rw [List.getD, List.getD, List.getElem?_map]
  cases S[j]? <;> rfl
section
variable {c : Cd}
theorem Fz.keep {pr : Addr} {F H H' : Hp} (z : Fz pr F H) (k : Keep pr H H') : Fz pr F H' :=
  ⟨fun a o e => k.kp a o (z.le a o e) (fun q => by rw [q, z.npr] at e; cases e) (z.ntb a o e), z.npr, z.ntb⟩
theorem Keep.ext {pr : Addr} {H H1 : Hp} (e : LamX.ExtN H H1) : Keep pr H H1 := ⟨fun b o h _ t => e b o h t, fun b hb => by
  obtain ⟨o, h, t⟩ := nn_ex hb
  exact not_nn (e b o h t) t⟩
theorem Amb.ext {K : PySem.W.Frag} {T : List (Addr × Str)} {pr ps : Addr} {xs : List Int} {H H1 : Hp} (a : Amb K T pr ps xs H) (e : LamX.ExtN H H1) (t : LamX.Tabs T H1) : Amb K T pr ps xs H1 := by
  obtain ⟨⟨i, s, b, e1, r⟩, sc, tb⟩ := a
  refine ⟨⟨i, s, b, e _ _ e1 lst_nt, r⟩, ?_, t⟩
  rcases sc with (sc | ⟨o, sc⟩) | sc
  · exact .inl (.inl (e _ _ sc lst_nt))
  · exact .inl (.inr ⟨o, e _ _ sc frz_nt⟩)
  · exact .inr sc
theorem rep_hide {F H H1 : Hp} {S : Sl} {σ : Sg} (r : Rep c F S σ H) (k : Keep c.pr H H1) (a : Amb c.K c.T c.pr c.ps c.xs H1) : Rep { c with H0 := H1, F0 := F } F (hideS S) σ H1 := by
  have no : ∀ i p, ¬ OwnAt (hideS S) σ i p := fun i p ⟨h, _⟩ => by
    rw [getS_hide] at h
    cases e : getS S i <;> rw [e] at h <;> rcases h with ⟨_, z⟩ | ⟨_, z⟩ | ⟨_, z⟩ <;> cases z
  refine ⟨a, a, .refl _ _, r.fz.keep k, .refl _ _, fun i => ?_, fun i j p h => absurd h (no i p), by unfold hideS; rw [List.length_map]; exact r.len⟩
  rw [getS_hide]
  have q := r.slot i
  cases e : getS S i with
  | dat d => rw [e] at q; exact q
  | _ => trivial
end
section
variable {X : Cx} {c : Cd} {EX : Str → Prop} {k : Nat}
theorem PE.ex {ι : Type} {e : Expr} {h : ι → XK → Prop} {E : XK} {t : ι → TE} (p : ∀ i, h i E → PE X e (t i)) : PE X e (fun σ H Q => ∃ i, h i E ∧ t i σ H Q) := ⟨fun pins s σ H Q I ⟨i, hi, q⟩ => (p i hi).run pins s σ H Q I q⟩
/-- what is known of _law_refused and of the lambda's maker -/
structure RefTxt (P : Program) (w : World) (K : PySem.W.Frag) (mg : Str → Option Value) (base : Heap) (T : List (Addr × Str)) (CB : Addr) (code : Value) (qual : Str) : Prop where
  ex : ∃ (g fI cM PM : Addr) (pg : Arguments) (bg : List Stmt) (sg : Scope) (dV kV doc pm cdv ct oc : Value) (an od : Option Addr) (osl : Array (Option Value)) (j : Nat) (p1 p2 p3 p4 p5 p6 p7 p8 p9 p10 p11 : Pos),
    mg "_law_refused" = some (.ref g) ∧ PySem.W.keepIn K (.ref g) = true ∧ K.lookup g = some ⟨oc, od, .func (PySem.W.fnOf "_law_refused" "_law_refused" pg bg sg dV kV doc pm an cdv ct), osl⟩ ∧ PySem.W.codeIn K cdv "_law_refused" = true ∧
    L2.Binds K (PySem.W.fnOf "_law_refused" "_law_refused" pg bg sg dV kV doc pm an cdv ct) ["call"] [] ∧ FnScope ["call", "e"] ["call"] sg ∧ Vis sg "call" ∧ sg.names.lookup ("BadArgument" : Str) = some .globalImplicit ∧ sg.names.lookup ("e" : Str) = some .local ∧
    bg = [.Try [.Expr (.Call (.Name "call" p1) [] [] p2) p3] [.ExceptHandler (some (.Name "BadArgument" p4)) (some "e") [.Return (some (.Attribute (.Name "e" p5) "name" p6)) p7] p8] [] [] p9, .Return (some (.Constant (.str "") j p10)) p11] ∧
    PySem.LowX.LowTxt K mg CB fI ∧ LamX.TabB base mg cM PM ∧ code = .ref cM ∧ (PM, qual ++ "<lambda>") ∈ T ∧ (∀ p ∈ T, p.1 = PM → p.2 = qual ++ "<lambda>")
theorem de_ref {body : Expr} {params : Arguments} {scope : Scope} {t : (Str → Prop) → WE} {p lpos pos : Pos} (G : RefTxt X.prog X.w X.K X.mg X.base c.T c.CB X.env.code X.env.qual) (B : Ctx X c EX k) {j : Nat} (hj : j + 2 ≤ k) (L : LamX.LamS X.env.scope scope) (hdef : defaultsOf params X.env = ([], []))
    (hbind : ∀ (q : Str) (cl : List (Str × Addr)) (pm cv ctv : Value), bindArgs (PySem.W.kla_fn "<lambda>" q params body scope cl pm cv ctv) ⟨[], []⟩ = pure [])
    (hbody : ∀ (A : Around) (outer : List Env) (s : Shared) (H : Hp) (E : XK) (f c' : Addr) (c2 : Cd) (EX2 : Str → Prop), Ctx (LamX.lamCx X A outer s H E scope f c') c2 EX2 j → c2.T = c.T → c2.CB = c.CB → DE (LamX.lamCx X A outer s H E scope f c') c2 body (t EX2)) (hg : Gl X "_law_refused" := by rfl) :
    DE X c (.Call (.Name "_law_refused" p) [.Lambda params body scope lpos] [] pos) (wRef t) := by
  obtain ⟨g, fI, cM, PM, pg, bg, sg, dV, kV, doc, pm, cdv, ct, oc, an, od, osl, jj, p1, p2, p3, p4, p5, p6, p7, p8, p9, p10, p11, hm, hk, lk, hcg, hb, Sg, hva, hge, hle, ebg, T, TB, hcode, hmT, hu⟩ := G.ex
  subst ebg
  refine (LamX.pe_lamcall (k := j) (t := fun E σ H Q => ∃ i : Cd × (Str → Prop), (i.1.K = X.K ∧ i.1.T = c.T ∧ i.1.CB = c.CB ∧ ∀ cls d H', liftX i.1 i.2 cls d H' → E cls d H') ∧ LE i.1 (t i.2) σ H Q) hg hm hk lk hcg hb Sg rfl hva (ref_gives T hge hle) TB hcode hmT hu (B.room.mono hj) L hdef hbind (fun A outer s H E f c' hr => PE.ex (h := fun (i : Cd × (Str → Prop)) E => i.1.K = X.K ∧ i.1.T = c.T ∧ i.1.CB = c.CB ∧ ∀ cls d H', liftX i.1 i.2 cls d H' → E cls d H') fun i hi => ?_)).imp fun σ H Q h => ?_
  · obtain ⟨h1, h2, h3, h4⟩ := hi
    exact hbody A outer s H E f c' i.1 i.2 ⟨h1, rfl, B.nd, hr, Takes.imp (W := fun cls d _ H' => E cls d H') (takes_of rfl rfl rfl rfl) fun cls d _ H' z => h4 cls d H' z⟩ h2 h3
  · obtain ⟨F, S, R, r, h, kk⟩ := h
    refine ⟨r.amb.tab, fun H1 eN T1 => ?_⟩
    have kp : Keep c.pr H H1 := Keep.ext eN
    have am1 := r.amb.ext eN T1
    refine ⟨({ c with H0 := H1, F0 := F }, fun nm => R (.str nm) S), ⟨B.hK, rfl, rfl, fun cls d H' ⟨nm, dd, e1, e2, e3, e4, e5, e6⟩ => ⟨e1, dd, nm, e2, e3, ?_⟩⟩, F, hideS S, fun _ _ => R (.str "") S, rep_hide r kp am1, h, fun d S' v F' H' hR nx r' rv => ?_⟩
    · have kk' := kp.trans e4
      obtain ⟨nx, r2⟩ := r.kept kk' e5 (r.fz.keep kk') (.refl _ _)
      exact kk _ S _ F H' e6 nx r2 rfl
    · have kk' := kp.trans r'.keep
      obtain ⟨nx2, r2⟩ := r.kept kk' r'.amb (r.fz.keep kk') (.refl _ _)
      exact kk _ S _ F H' hR nx2 r2 rfl
end
end DL

set_option Elab.async false
set_option linter.all false
set_option maxRecDepth 100000
set_option maxHeartbeats 4000000
/-! The top: the error's class, the lambdas' maker, the law's own loop. -/
namespace DL
open PySem PySem.Spec PyProof.Rows L2 PySem.Calls
section
variable {P : Program} {w : World} {K : PySem.W.Frag} {mg : Str → Option Value} {base : Heap} {T : List (Addr × Str)} {CB : Addr}
theorem callee_mkC {x : Str} {st : Stmt} {f : Addr} {fd : FuncData} {N ps : List Str} {k : Nat} {s : DSp} {t : (Str → Prop) → WS} (F : Fun K x x st f fd) (S : FnScope N ps (defScope st)) (hm : mg x = some (.ref f)) (hb : Binds K fd ps []) (len : ∀ ds Q E, s ds Q E → ds.length = ps.length)
    (hbody : ∀ (cdv : Value) (A : Around) (outer : List Env) (s0 : Shared) (H : Hp) (E : XK) (c : Cd) (EX : Str → Prop), cdv = fd.code → Ctx (cxOf (L2.CX P w) P w K mg base N x (defScope st) f cdv A outer s0 H E) c EX k →
      PassesOwn (model P w) (cxOf (L2.CX P w) P w K mg base N x (defScope st) f cdv A outer s0 H E).A (cxOf (L2.CX P w) P w K mg base N x (defScope st) f cdv A outer s0 H E).env (cxOf (L2.CX P w) P w K mg base N x (defScope st) f cdv A outer s0 H E).xe → c.T = T → c.CB = CB →
      DSts (cxOf (L2.CX P w) P w K mg base N x (defScope st) f cdv A outer s0 H E) c (defBody st) (t EX))
    (hpure : ∀ ds Q EX, s ds Q EX → t EX { nx := fun _ => Q .non, rt := Q } (startD N ds)) : Callee P w K mg base T CB x (k + 1) ps s := by
  have kp := F.kp
  obtain ⟨oc, od, kV, doc, pm, an, cdv, ct, osl, rfl, lk, hcd⟩ := F.ex
  refine ⟨f, _, fn_of lk hcd S (fun vs H Q E ⟨pr, p2, xs, F, ds, R0, E0, am, fz, rl, h, _⟩ => by rw [rl.length]; exact len _ _ _ h) (fun A outer s0 H vs Q E hr ⟨pr, p2, xs, F, ds, R0, E0, am, fz, rl, h, kq, ke⟩ => ?_), hm, kp, hb, _, _, _, lk⟩
  have B : Ctx (cxOf (L2.CX P w) P w K mg base N x (defScope st) f cdv A outer s0 H E) ⟨K, T, CB, pr, p2, xs, H, F⟩ E0 k :=
    ⟨rfl, rfl, S.nd, hr, Takes.imp (W := fun cls d _ H' => E cls d H') (takes_of rfl rfl rfl rfl) fun cls d _ H' ⟨nm, dd, e1, e2, e3, e4, e5, e6⟩ => by subst e1 e2; exact ke nm dd H' e6 e4 e5 e3⟩
  refine ⟨_, hbody cdv A outer s0 H E _ E0 rfl B (passes_of rfl) rfl rfl, ?_⟩
  refine ⟨F, startD N ds, _, rep_start am fz rl, hpure ds R0 E0 h, ⟨fun F' S' σ' H' _ r q => kq .non .non F' H' q r.keep r.amb r.fz r.gr rfl, fun F' d v H' kp am z g q rv => kq d v F' H' q kp am z g rv, fun _ _ _ _ _ _ q => q.elim, fun _ _ _ _ _ _ q => q.elim⟩⟩
end
/-! ### the class of the errors -/
def lowC (K : PySem.W.Frag) (C : Addr) : Bool := match K.lookup C with
  | some ⟨.type "type", _, .cls cd, sl⟩ => (match cd.mro, sl.toList with
    | .ref C' :: bm, [_, _, _, _, some (.builtin n), _] => C' == C && n == "ValueError.__new__" && !cd.hasDel && cd.hasDict && PySem.HandSPX.refsVE bm
    | _, _ => false)
  | _ => false
theorem lowC_ok {K : PySem.W.Frag} {C : Addr} (q : lowC K C = true) : ∃ nm q N bs bm sn sub ab col dd k0 k1 k2 k3 k5, K.lookup C = some (excClassObj nm q C N bs bm true sn sub ab col dd k0 k1 k2 k3 k5 "ValueError.__new__") ∧ PySem.HandSPX.refsVE bm = true := by
  unfold lowC at q
  split at q
  · rename_i dd cd sl ho
    split at q
    · rename_i C' bm k0 k1 k2 k3 n k5 hm hs
      simp only [Bool.and_eq_true, beq_iff_eq, Bool.not_eq_true'] at q
      obtain ⟨⟨⟨⟨rfl, rfl⟩, hdel⟩, hdd⟩, ht⟩ := q
      obtain ⟨nm, bs, mro, ns, qn, hd, sn, sub, ab, col, del⟩ := cd
      dsimp only at hm hdel hdd
      subst hm hdel hdd
      have hsl : sl = #[k0, k1, k2, k3, some (.builtin "ValueError.__new__"), k5] := by
        obtain ⟨l⟩ := sl
        simp only at hs
        rw [hs]
      subst hsl
      exact ⟨nm, qn, ns, bs, bm, sn, sub, ab, col, dd, k0, k1, k2, k3, k5, ho, ht⟩
    · cases q
  · cases q
def lowB (K : PySem.W.Frag) : Bool := lowC K (He.ga K "BadArgument") && (He.eqO (PySem.W.findIn K (.ref (He.ga K "BadArgument")) "__setattr__") (some (some (.builtin "object.__setattr__"))) && (He.eqO (PySem.W.findIn K (.ref (He.ga K "BadArgument")) "__getattribute__") (some (some (.builtin "BaseException.__getattribute__"))) &&
  (He.eqO (PySem.W.findIn K (.ref (He.ga K "BadArgument")) "__getattr__") (some none) && (He.eqO (PySem.W.findIn K (.ref (He.ga K "BadArgument")) "name") (some none) && (He.eqO (PySem.W.findIn K (.ref (He.ga K "BadArgument")) "__init__") (some (some (.ref (He.ma K (He.ga K "BadArgument") "__init__")))) &&
  (decide (PySem.W.typeIn K (.ref (He.ma K (He.ga K "BadArgument") "__init__")) = some (.type "function")) && (PySem.W.keepIn K (.ref (He.ga K "BadArgument")) && (decide (PySem.W.subIn K (.ref (He.ga K "BadArgument")) (.type "BaseException") = some true) &&
  (decide (PySem.W.typeIn K (.ref (He.ga K "BadArgument")) = some (.type "type")) && (PySem.W.hasDictIn K (He.ga K "BadArgument") && decide (PySem.W.exmOne K (.ref (He.ga K "BadArgument")) (.ref (He.ga K "BadArgument")) = some true)))))))))))
def fIn (K : PySem.W.Frag) : Addr := He.ma K (He.ga K "BadArgument") "__init__"
theorem low_ok {K : PySem.W.Frag} {mg : Str → Option Value} {p1 p2 q1 q2 q3 q4 : Pos} {fd : FuncData} (h : lowB K = true) (g : mg "BadArgument" = some (.ref (He.ga K "BadArgument"))) (F : FunD K "__init__" "BadArgument.__init__" (PySem.LowX.iA p1 p2) (PySem.LowX.iB q1 q2 q3 q4) PySem.LowX.iS [] [] (fIn K) fd) : PySem.LowX.LowTxt K mg (He.ga K "BadArgument") (fIn K) := by
  obtain ⟨h1, h⟩ := He.ba h
  obtain ⟨h2, h⟩ := He.ba h
  obtain ⟨h3, h⟩ := He.ba h
  obtain ⟨h4, h⟩ := He.ba h
  obtain ⟨h5, h⟩ := He.ba h
  obtain ⟨h6, h⟩ := He.ba h
  obtain ⟨h7, h⟩ := He.ba h
  obtain ⟨h8, h⟩ := He.ba h
  obtain ⟨h9, h⟩ := He.ba h
  obtain ⟨h10, h⟩ := He.ba h
  obtain ⟨h11, h12⟩ := He.ba h
  refine ⟨g, lowC_ok h1, He.eqO_ok h2, He.eqO_ok h3, He.eqO_ok h4, He.eqO_ok h5, He.eqO_ok h6, of_decide_eq_true h7, h8, of_decide_eq_true h9, of_decide_eq_true h10, h11, of_decide_eq_true h12, ?_⟩
  obtain ⟨oc, od, dV, kV, doc, pm, an, cdv, ct, osl, rfl, lk, hcd, hD, _⟩ := F.ex
  rcases hD with ⟨_, rfl⟩ | ⟨e, _⟩
  · exact ⟨oc, od, kV, doc, pm, an, cdv, ct, osl, p1, p2, q1, q2, q3, q4, lk, hcd⟩
  · exact absurd rfl e
theorem fun_of {K : PySem.W.Frag} {x : Str} {st : Stmt} {f : Addr} {fd : FuncData} (F : FunD K x x (defArgs st) (defBody st) (defScope st) [] [] f fd) : Fun K x x st f fd := by
  refine ⟨?_, F.kp⟩
  obtain ⟨oc, od, dV, kV, doc, pm, an, cdv, ct, osl, rfl, lk, hcd, hD, _⟩ := F.ex
  rcases hD with ⟨_, rfl⟩ | ⟨e, _⟩
  · exact ⟨oc, od, kV, doc, pm, an, cdv, ct, osl, rfl, lk, hcd⟩
  · exact absurd rfl e
/-- the table of _law_case, the name of its lambdas -/
def lamTab (K : PySem.W.Frag) : List (Addr × Str) := [((He.cT K ("_law_case", none)).2, "_law_case.<locals>.<lambda>")]
theorem ref_ok {P : Program} {w : World} {K : PySem.W.Frag} {mg : Str → Option Value} {base : Heap} {fd fdc : FuncData} {pg : Arguments} {sg : Scope} {j : Nat} {p1 p2 p3 p4 p5 p6 p7 p8 p9 p10 p11 : Pos} {cp : Arguments} {cb : List Stmt} {cs : Scope}
    (T : PySem.LowX.LowTxt K mg (He.ga K "BadArgument") (fIn K)) (g : mg "_law_refused" = some (.ref (He.ga K "_law_refused")))
    (F : FunD K "_law_refused" "_law_refused" pg [.Try [.Expr (.Call (.Name "call" p1) [] [] p2) p3] [.ExceptHandler (some (.Name "BadArgument" p4)) (some "e") [.Return (some (.Attribute (.Name "e" p5) "name" p6)) p7] p8] [] [] p9, .Return (some (.Constant (.str "") j p10)) p11] sg [] [] (He.ga K "_law_refused") fd)
    (hb : Binds K fd ["call"] []) (Sg : FnScope ["call", "e"] ["call"] sg) (hva : Vis sg "call") (hge : sg.names.lookup ("BadArgument" : Str) = some .globalImplicit) (hle : sg.names.lookup ("e" : Str) = some .local)
    (C : FunD K "_law_case" "_law_case" cp cb cs [] [] (He.fAd K ("_law_case", none)) fdc) (TB : LamX.TabB base mg (He.cT K ("_law_case", none)).1 (He.cT K ("_law_case", none)).2) : RefTxt P w K mg base (lamTab K) (He.ga K "BadArgument") fdc.code "_law_case.<locals>." := by
  have kp := F.kp
  obtain ⟨oc, od, dV, kV, doc, pm, an, cdv, ct, osl, rfl, lk, hcd, hD, _⟩ := F.ex
  obtain ⟨oc2, od2, dV2, kV2, doc2, pm2, an2, cdv2, ct2, osl2, rfl, lk2, hcd2, _, _⟩ := C.ex
  obtain ⟨c, hc⟩ := He.codeIn_ref hcd2
  have e := He.codeOf_eq lk2 hc
  refine ⟨_, _, _, _, _, _, _, _, _, _, _, _, _, _, _, _, _, _, _, _, _, _, _, _, _, _, _, _, _, g, kp, lk, hcd, hb, Sg, hva, hge, hle, rfl, T, TB, ?_, ?_, ?_⟩
  · show cdv2 = _
    rw [hc]
    exact congrArg Value.ref e.symm
  · exact List.mem_singleton.mpr rfl
  · intro p hp _
    rw [List.mem_singleton.mp hp]
    rfl
end DL

set_option Elab.async false
set_option linter.all false
set_option maxRecDepth 100000
set_option maxHeartbeats 4000000
/-! Calls, by keywords too; what a lambda lets out. -/
namespace DL
open PySem PySem.Spec PyProof.Rows L2
section
variable {X : Cx} {c : Cd} {EX : Str → Prop} {k : Nat} {a b e : Expr} {es rest : List Expr} {pos : Pos} {T : List (Addr × Str)} {CB : Addr}
theorem de_callE {x : Str} {p : Pos} {ps : List Str} {s : DSp} {t : WA} {j : Nat} (G : Callee X.prog X.w X.K X.mg X.base T CB x j ps s) (B : Ctx X c EX k) (hT : c.T = T) (hC : c.CB = CB) (hj : j ≤ k) (ha : DAs X c (e :: es) t) (hg : Gl X x := by rfl) (hdb : (x == ("__debug__" : Str)) = false := by decide)
    (he : starEach (e :: es) X.env = (false, eval e X.env) :: starEach es X.env := by rfl) (hpl : (backTo pos (starEach es X.env)).any (·.1) = false := by rfl) : DE X c (.Call (.Name x p) (e :: es) [] pos) (wCall s EX t) := by
  subst hT hC
  exact de_call G B hj ha hg hdb he hpl
/-- keywords behind the positional values, in the parameters' order -/
def KwB (K : PySem.W.Frag) (mg : Str → Option Value) (x : Str) (ps : List Str) (n : Nat) : Prop := ∀ f fd oc od osl, mg x = some (.ref f) → K.lookup f = some ⟨oc, od, .func fd, osl⟩ → KBn K fd ps n (ps.drop n) (fun us ws => us ++ ws) (fun us ws => us ++ ws)
theorem kwb_mk {K : PySem.W.Frag} {mg : Str → Option Value} {x : Str} {st : Stmt} {f : Addr} {fd : FuncData} {ps : List Str} {n : Nat} (F : Fun K x x st f fd) (hm : mg x = some (.ref f))
    (h : ∀ (kV doc pm : Value) (an : Option Addr) (cdv ct : Value) (us ws : List Value), us.length = n → ws.length = (ps.drop n).length → bindArgs (PySem.W.fnOf x x (defArgs st) (defBody st) (defScope st) .none kV doc pm an cdv ct) ⟨us, (ps.drop n).zip ws⟩ = pure (ps.zip (us ++ ws))) : KwB K mg x ps n := by
  intro f' fd' oc' od' osl' hm' lk'
  rw [hm] at hm'
  cases hm'
  obtain ⟨oc, od, kV, doc, pm, an, cdv, ct, osl, rfl, lk, _⟩ := F.ex
  rw [lk] at lk'
  cases lk'
  exact ⟨fun s us ws _ l1 l2 => .of_eq (h _ _ _ _ _ _ us ws l1 l2), fun r1 r2 => r1.append r2⟩
abbrev DKw (X : Cx) (c : Cd) (kws : List Keyword) (t : WA) : Prop := PK X kws (LA c t)
theorem dk_nil : DKw X c [] wA0 := ⟨fun pos pins s σ H Q I h => pk_nil.run pos pins s σ H Q I (by
  obtain ⟨F, S, R, r, q, k⟩ := h
  exact k _ _ _ _ _ q (.refl ..) r rfl)⟩
theorem dk_cons {t : WE} {u : WA} {nm : Option Str} {kpos : Pos} {kws : List Keyword} (h : DE X c e t) (hr : DKw X c kws u) : DKw X c (⟨nm, e, kpos⟩ :: kws) (wAs t u) := ⟨fun pos pins s σ H Q I q => (pk_cons h hr).run pos pins s σ H Q I (by
  obtain ⟨F, S, R, r, q, k⟩ := q
  exact ⟨F, S, _, r, q, fun x S1 v F1 H1 q n1 r1 rx => ⟨F1, S1, _, r1, q, fun xs S2 vs F2 H2 q n2 r2 rxs => k _ _ _ _ _ q (n1.trans n2) r2 ⟨v, vs, rfl, Rv.mono n2.le _ _ rx, rxs⟩⟩⟩)⟩
theorem de_callK {x : Str} {p : Pos} {ps ks : List Str} {s : DSp} {t tk : WA} {j n m : Nat} {kws : List Keyword} (G : Callee X.prog X.w X.K X.mg X.base T CB x j ps s) (KB : KwB X.K X.mg x ps n) (B : Ctx X c EX k) (hT : c.T = T) (hC : c.CB = CB) (hj : j ≤ k) (ha : DAs X c (e :: es) t) (hkw : DKw X c kws tk) (hg : Gl X x := by rfl)
    (hdr : ps.drop n = ks := by rfl) (hm : ks.length = m := by rfl) (hall : (backToKw pos (keywordEach kws X.env)).all (·.1.isSome) = true := by rfl) (hks : (backToKw pos (keywordEach kws X.env)).filterMap (·.1) = ks := by rfl)
    (hdb : (x == ("__debug__" : Str)) = false := by decide) (he : starEach (e :: es) X.env = (false, eval e X.env) :: starEach es X.env := by rfl)
    (hpl : ((backTo pos (starEach (e :: es) X.env)).any (·.1) || (backToKw pos (keywordEach kws X.env)).any (·.1.isNone)) = false := by rfl) : DE X c (.Call (.Name x p) (e :: es) kws pos) (wCallK s EX n m t tk) := by
  subst hT hC hdr hm
  obtain ⟨f, fd, F, hm, hk, hb, oc, od, osl, lk⟩ := G.ex
  refine (pe_callN F (B.room.mono hj) hg hm hk (KB _ _ _ _ _ hm lk) B.px ha hkw hall hks hdb he hpl).imp fun σ H Q h => ?_
  obtain ⟨F0, S, R, rp, h, kk⟩ := h
  refine ⟨F0, S, _, rp, h, fun ds S1 vs F1 H1 q n1 r1 rl => ⟨F1, S1, _, r1, q, fun es S2 zs F2 H2 ⟨l1, l2, q⟩ n2 r2 rl2 => ⟨rl.length.trans l1, rl2.length.trans l2, ?_⟩⟩⟩
  refine ⟨c.pr, c.ps, c.xs, F2, ds ++ es, _, _, B.hK ▸ r2.amb, r2.fz, (RvL.mono n2.le _ _ rl).append rl2, q, fun d v F' H' q kp am z g rv => ?_, fun nm dd H' q kp am e => ⟨nm, dd, rfl, rfl, e, r2.keep.trans kp, B.hK ▸ am, q⟩⟩
  obtain ⟨nx, r3⟩ := r2.kept kp (B.hK ▸ am) z g
  exact kk d S2 v F' H' q ((n1.trans n2).trans nx) r3 rv
theorem de_refE {body : Expr} {params : Arguments} {scope : Scope} {t : (Str → Prop) → WE} {p lpos pos : Pos} {cd : Value} {q : Str} (G : RefTxt X.prog X.w X.K X.mg X.base T CB cd q) (B : Ctx X c EX k) (hT : c.T = T) (hC : c.CB = CB) (hcd : X.env.code = cd) {j : Nat} (hj : j + 2 ≤ k)
    (hbody : ∀ (A : Around) (outer : List Env) (s : Shared) (H : Hp) (E : XK) (f c' : Addr) (c2 : Cd) (EX2 : Str → Prop), Ctx (LamX.lamCx X A outer s H E scope f c') c2 EX2 j → c2.T = T → c2.CB = CB → DE (LamX.lamCx X A outer s H E scope f c') c2 body (t EX2))
    (hL : LamX.lamSB X.env.scope scope = true := by first | rfl | kernel_rfl) (hq : X.env.qual = q := by rfl) (hdef : defaultsOf params X.env = ([], []) := by rfl)
    (hbind : ∀ (q : Str) (cl : List (Str × Addr)) (pm cv ctv : Value), bindArgs (PySem.W.kla_fn "<lambda>" q params body scope cl pm cv ctv) ⟨[], []⟩ = pure [] := by intro _ _ _ _ _; rfl) (hg : Gl X "_law_refused" := by rfl) :
    DE X c (.Call (.Name "_law_refused" p) [.Lambda params body scope lpos] [] pos) (wRef t) := by
  subst hT hC hcd hq
  exact de_ref G B hj (LamX.lamS_by hL) hdef hbind hbody hg
end
end DL

set_option Elab.async false
set_option linter.all false
set_option maxHeartbeats 4000000
/-! Sets of small numbers as bits; what a dict holds behind a store. -/
namespace DL
open PySem
/-! ### bits -/
theorem bAnd (a b : Nat) : Builtin.bitAnd (a : Int) (b : Int) = ((a &&& b : Nat) : Int) := by
  simp [Builtin.bitAnd]
theorem bNot (a : Nat) : (Builtin.bitNot (Builtin.bitNot (a : Int))) = (a : Int) := by
  unfold Builtin.bitNot
  omega
theorem bOr (a b : Nat) : Builtin.bitOr (a : Int) (b : Int) = ((a ||| b : Nat) : Int) := by
  have h1 : ¬ (0 : Int) ≤ Builtin.bitNot (a : Int) := by unfold Builtin.bitNot; omega
  have h2 : ¬ (0 : Int) ≤ Builtin.bitNot (b : Int) := by unfold Builtin.bitNot; omega
  unfold Builtin.bitOr Builtin.bitAnd
  rw [decide_eq_false h1, decide_eq_false h2]
  show Builtin.bitNot (Builtin.bitNot _) = _
  rw [bNot, bNot, bNot, Int.toNat_natCast, Int.toNat_natCast]
theorem nat_xor (a b : Nat) : a ||| b = (a ^^^ b) + (a &&& b) := by
  induction a using Nat.strongRecOn generalizing b with
  | _ a ih =>
    by_cases h : a = 0
    · subst h
      simp
    · have e := ih (a / 2) (by omega) (b / 2)
      have d1 := Nat.or_div_two (a := a) (b := b)
      have d2 := Nat.xor_div_two (a := a) (b := b)
      have d3 := Nat.and_div_two (a := a) (b := b)
      have m1 := Nat.or_mod_two_eq_one (a := a) (b := b)
      have m2 := Nat.xor_mod_two_eq_one (a := a) (b := b)
      have m3 := Nat.and_mod_two_eq_one (a := a) (b := b)
      have p1 := Nat.div_add_mod (a ||| b) 2
      have p2 := Nat.div_add_mod (a ^^^ b) 2
      have p3 := Nat.div_add_mod (a &&& b) 2
      have q1 := Nat.mod_two_eq_zero_or_one (a ||| b)
      have q2 := Nat.mod_two_eq_zero_or_one (a ^^^ b)
      have q3 := Nat.mod_two_eq_zero_or_one (a &&& b)
      have q4 := Nat.mod_two_eq_zero_or_one a
      have q5 := Nat.mod_two_eq_zero_or_one b
      omega
theorem bXor (a b : Nat) : Builtin.bitXor (a : Int) (b : Int) = ((a ^^^ b : Nat) : Int) := by
  unfold Builtin.bitXor
  rw [bOr, bAnd]
  have := nat_xor a b
  omega
/-- own >> j & 1 -/
theorem bit_at (m j : Nat) : Builtin.bitAnd ((m : Int) / 2 ^ (j : Nat)) 1 = if m.testBit j = true then 1 else 0 := by
  have e : ((m : Int) / 2 ^ (j : Nat)) = ((m / 2 ^ j : Nat) : Int) := by
    rw [Int.natCast_ediv, Int.natCast_pow]
    rfl
  rw [e, show (1 : Int) = ((1 : Nat) : Int) from rfl, bAnd, Nat.and_one_is_mod]
  rw [Nat.testBit_eq_decide_div_mod_eq]
  have := Nat.mod_two_eq_zero_or_one (m / 2 ^ j)
  by_cases h : m / 2 ^ j % 2 = 1
  · rw [h, if_pos (by simp)]
  · rw [show m / 2 ^ j % 2 = 0 by omega, if_neg (by simp)]
    rfl
theorem one_shl (j : Nat) : (1 : Int) * 2 ^ j = ((2 ^ j : Nat) : Int) := by
  rw [Int.one_mul, Int.natCast_pow]
  rfl
theorem one_shl' (j : Nat) : (1 : Int) * 2 ^ (((j : Nat) : Int)).toNat = ((2 ^ j : Nat) : Int) := by
  rw [Int.toNat_natCast, one_shl]
/-- the number of a set -/
def msk : List Nat → Nat
  | [] => 0
  | j :: r => msk r ||| 2 ^ j
theorem msk_bit (k : Nat) : ∀ js : List Nat, (msk js).testBit k = decide (k ∈ js)
  | [] => by simp [msk]
  | j :: r => by
    rw [msk, Nat.testBit_or, msk_bit k r, Nat.testBit_two_pow, Bool.eq_iff_iff, Bool.or_eq_true, decide_eq_true_eq, decide_eq_true_eq, decide_eq_true_eq, List.mem_cons]
    exact ⟨fun w => w.elim .inr fun e => .inl e.symm, fun w => w.elim (fun e => .inr e.symm) .inl⟩
theorem msk_lt {n : Nat} : ∀ {js : List Nat}, (∀ j ∈ js, j < n) → msk js < 2 ^ n
  | [], _ => Nat.two_pow_pos n
  | j :: r, h => Nat.or_lt_two_pow (msk_lt fun k hk => h k (List.mem_cons_of_mem _ hk)) (Nat.pow_lt_pow_right (by omega) (h j List.mem_cons_self))
theorem msk_ext {js ks : List Nat} (h : ∀ j, j ∈ js ↔ j ∈ ks) : msk js = msk ks := Nat.eq_of_testBit_eq fun k => by
  rw [msk_bit, msk_bit]
  exact decide_eq_decide.mpr (h k)
theorem msk_mem {js ks : List Nat} (h : msk js = msk ks) (j : Nat) : j ∈ js ↔ j ∈ ks := by
  have := congrArg (fun m => Nat.testBit m j) h
  have : (msk js).testBit j = (msk ks).testBit j := this
  rw [msk_bit, msk_bit] at this
  exact decide_eq_decide.mp this
/-- the elements of a number -/
def els (n m : Nat) : List Nat := (List.range n).filter fun j => m.testBit j
theorem mem_els {n m j : Nat} : j ∈ els n m ↔ j < n ∧ m.testBit j = true := by
  unfold els
  rw [List.mem_filter, List.mem_range]
theorem bit_lt {n m j : Nat} (h : m < 2 ^ n) (b : m.testBit j = true) : j < n := by
  refine Classical.byContradiction fun z => ?_
  have := Nat.testBit_lt_two_pow (x := m) (i := j) (Nat.lt_of_lt_of_le h (Nat.pow_le_pow_right (by omega) (by omega)))
  rw [this] at b
  cases b
theorem msk_els {n m : Nat} (h : m < 2 ^ n) : msk (els n m) = m := Nat.eq_of_testBit_eq fun k => by
  rw [msk_bit, Bool.eq_iff_iff, decide_eq_true_eq, mem_els]
  exact ⟨fun w => w.2, fun w => ⟨bit_lt h w, w⟩⟩
theorem msk_range (n : Nat) : msk (List.range n) = 2 ^ n - 1 := Nat.eq_of_testBit_eq fun k => by
  rw [msk_bit, Nat.testBit_two_pow_sub_one]
  exact decide_eq_decide.mpr List.mem_range
theorem or_gt {m j : Nat} (h : m.testBit j = false) : m < m ||| 2 ^ j := by
  have h2 := nat_xor m (2 ^ j)
  have h3 : m &&& 2 ^ j = 0 := Nat.eq_of_testBit_eq fun k => by
    rw [Nat.testBit_and, Nat.testBit_two_pow]
    by_cases e : j = k
    · subst e
      simp [h]
    · simp [e]
  have h4 : m ≤ m ||| 2 ^ j := Nat.left_le_or
  have h5 : (m ||| 2 ^ j).testBit j = true := by rw [Nat.testBit_or, Nat.testBit_two_pow]; simp
  rcases Nat.lt_or_ge m (m ||| 2 ^ j) with w | w
  · exact w
  · have e : m = m ||| 2 ^ j := by omega
    rw [← e, h] at h5
    cases h5
/-! ### dicts -/
def lookK {κ : Type} [DecidableEq κ] (kvs : List (κ × D)) (i : κ) : Option D := (kvs.find? fun p => decide (p.1 = i)).map (·.2)
theorem lookI_K : lookI = lookK := rfl
theorem lookT_K : lookT = lookK := rfl
section
variable {κ : Type} [DecidableEq κ]
theorem lookK_nil (i : κ) : lookK ([] : List (κ × D)) i = none := rfl
theorem lookK_cons (k : κ) (d : D) (r : List (κ × D)) (i : κ) : lookK ((k, d) :: r) i = if k = i then some d else lookK r i := by
  unfold lookK
  rw [List.find?_cons]
  by_cases h : k = i
  · rw [if_pos h, show decide ((k, d).1 = i) = true from decide_eq_true h]
    rfl
  · rw [if_neg h, show decide ((k, d).1 = i) = false from decide_eq_false h]
theorem any_look (k : κ) : ∀ kvs : List (κ × D), (kvs.any fun p => decide (p.1 = k)) = (lookK kvs k).isSome
  | [] => rfl
  | (i, d) :: r => by
    rw [List.any_cons, any_look k r, lookK_cons]
    by_cases h : i = k
    · rw [if_pos h, decide_eq_true (show ((i, d) : κ × D).1 = k from h)]
      rfl
    · rw [if_neg h, decide_eq_false (show ¬ ((i, d) : κ × D).1 = k from h), Bool.false_or]
theorem lookK_map (k : κ) (v : D) (j : κ) : ∀ kvs : List (κ × D), lookK (kvs.map fun p => if p.1 = k then (p.1, v) else p) j = (lookK kvs j).map fun x => if j = k then v else x
  | [] => rfl
  | (i, d) :: r => by
    rw [List.map_cons]
    have e : (if ((i, d) : κ × D).1 = k then (((i, d) : κ × D).1, v) else (i, d)) = (i, if i = k then v else d) := by
      by_cases h : i = k
      · rw [if_pos h, if_pos h]
      · rw [if_neg h, if_neg h]
    rw [e, lookK_cons, lookK_cons, lookK_map k v j r]
    by_cases h : i = j
    · rw [if_pos h, if_pos h, h]
      rfl
    · rw [if_neg h, if_neg h]
theorem lookK_snoc (k : κ) (v : D) (j : κ) : ∀ kvs : List (κ × D), lookK kvs k = none → lookK (kvs ++ [(k, v)]) j = if j = k then some v else lookK kvs j
  | [], _ => by
    rw [List.nil_append, lookK_cons, lookK_nil]
    by_cases h : k = j
    · rw [if_pos h, if_pos h.symm]
    · rw [if_neg h, if_neg fun z => h z.symm]
  | (i, d) :: r, hn => by
    rw [lookK_cons] at hn
    by_cases hi : i = k
    · rw [if_pos hi] at hn
      cases hn
    · rw [if_neg hi] at hn
      rw [List.cons_append, lookK_cons, lookK_cons, lookK_snoc k v j r hn]
      by_cases h : i = j
      · rw [if_pos h, if_pos h, if_neg fun z => hi (h.trans z)]
      · rw [if_neg h, if_neg h]
theorem lookK_put (kvs : List (κ × D)) (k : κ) (v : D) (j : κ) : lookK (putD kvs k v) j = if j = k then some v else lookK kvs j := by
  unfold putD
  rw [any_look]
  cases h : lookK kvs k with
  | none =>
    rw [if_neg (by simp)]
    exact lookK_snoc k v j kvs h
  | some x =>
    rw [if_pos (by simp), lookK_map]
    by_cases e : j = k
    · rw [if_pos e, e, h]
      simp
    · rw [if_neg e]
      cases lookK kvs j with
      | none => rfl
      | some y => simp [e]
theorem mem_keys {kvs : List (κ × D)} {k : κ} : k ∈ kvs.map (·.1) ↔ (lookK kvs k).isSome = true := by
  rw [← any_look, List.any_eq_true, List.mem_map]
  constructor
  · rintro ⟨p, hp, e⟩
    exact ⟨p, hp, decide_eq_true e⟩
  · rintro ⟨p, hp, e⟩
    exact ⟨p, hp, of_decide_eq_true e⟩
theorem putD_keys (kvs : List (κ × D)) (k : κ) (v : D) : (putD kvs k v).map (·.1) = if (lookK kvs k).isSome = true then kvs.map (·.1) else kvs.map (·.1) ++ [k] := by
  unfold putD
  rw [any_look]
  by_cases h : (lookK kvs k).isSome = true
  · rw [if_pos h, if_pos h, List.map_map]
    refine List.map_congr_left fun p _ => ?_
    show (if p.1 = k then (p.1, v) else p).1 = p.1
    by_cases e : p.1 = k
    · rw [if_pos e]
    · rw [if_neg e]
  · rw [if_neg h, if_neg h, List.map_append]
    rfl
theorem putD_nodup {kvs : List (κ × D)} {k : κ} {v : D} (h : (kvs.map (·.1)).Nodup) : ((putD kvs k v).map (·.1)).Nodup := by
  rw [putD_keys]
  by_cases e : (lookK kvs k).isSome = true
  · rw [if_pos e]
    exact h
  · rw [if_neg e]
    refine List.nodup_append.mpr ⟨h, by simp, fun a ha b hb z => ?_⟩
    rw [List.mem_singleton.mp hb] at z
    rw [z] at ha
    exact e (mem_keys.mp ha)
theorem putD_len (kvs : List (κ × D)) (k : κ) (v : D) : (putD kvs k v).length ≤ kvs.length + 1 := by
  have := congrArg List.length (putD_keys kvs k v)
  rw [List.length_map] at this
  rw [this]
  split
  · rw [List.length_map]
    omega
  · rw [List.length_append, List.length_map]
    exact Nat.le_refl _
theorem putD_mem {kvs : List (κ × D)} {k j : κ} {v : D} : j ∈ (putD kvs k v).map (·.1) ↔ j = k ∨ j ∈ kvs.map (·.1) := by
  rw [mem_keys, lookK_put, mem_keys]
  by_cases e : j = k
  · simp [e]
  · simp [e]
/-- a dict whose keys are all in a list is no longer than it -/
theorem keys_bound {kvs : List (κ × D)} {l : List κ} (h : (kvs.map (·.1)).Nodup) (s : ∀ k ∈ kvs.map (·.1), k ∈ l) : kvs.length ≤ l.length := by
  have := h.length_le_of_subset fun k hk => s k hk
  rwa [List.length_map] at this
theorem lookK_some {kvs : List (κ × D)} {k : κ} {v : D} (h : lookK kvs k = some v) : k ∈ kvs.map (·.1) := mem_keys.mpr (by rw [h]; rfl)
end
end DL

set_option Elab.async false
set_option linter.all false
set_option maxRecDepth 100000
set_option maxHeartbeats 4000000
/-! sorted(xs, key=f), f a def whose promise gives three ints for each item. -/
namespace DL
open PySem
def le3 (a b : Int × Int × Int) : Prop := a.1 < b.1 ∨ (a.1 = b.1 ∧ (a.2.1 < b.2.1 ∨ (a.2.1 = b.2.1 ∧ a.2.2 ≤ b.2.2)))
def kD3 (a : Int × Int × Int) : D := .tup [.int a.1, .int a.2.1, .int a.2.2]
def wSortK (s : DSp) (t : WL) : WL := fun S R => t S fun ds S1 => ds.length ≤ 1000 ∧ ∃ key : D → Int × Int × Int, (∀ x ∈ ds, ∀ (Q : D → Prop) (E : Str → Prop), Q (kD3 (key x)) → s [x] Q E) ∧ ∀ ys : List D, ys.Perm ds → ys.Pairwise (fun a b => le3 (key a) (key b)) → R ys S1
theorem wSortK_e (s : DSp) (t : WL) (S : Sl) (R : List D → Sl → Prop) : (wSortK s t S R) = (t S fun ds S1 => ds.length ≤ 1000 ∧ ∃ key : D → Int × Int × Int, (∀ x ∈ ds, ∀ (Q : D → Prop) (E : Str → Prop), Q (kD3 (key x)) → s [x] Q E) ∧ ∀ ys : List D, ys.Perm ds → ys.Pairwise (fun a b => le3 (key a) (key b)) → R ys S1) := Eq.trans rfl rfl
/-! pairs of a whole number and a row of whole numbers, in their order -/
def ltL : List Int → List Int → Bool
  | _, [] => false
  | [], _ :: _ => true
  | x :: xs, y :: ys => decide (x < y) || (decide (x = y) && ltL xs ys)
def ltq (p q : Int × List Int) : Bool := decide (p.1 < q.1) || (decide (p.1 = q.1) && ltL p.2 q.2)
def qD (q : Int × List Int) : D := .tup [.int q.1, .lst (q.2.map .int)]
theorem ltL_irr : ∀ xs : List Int, ltL xs xs = false
  | [] => rfl
  | x :: xs => by
    show (decide (x < x) || (decide (x = x) && ltL xs xs)) = false
    rw [ltL_irr xs]
    simp
theorem ltL_tri : ∀ {xs ys : List Int}, ltL xs ys = false → ltL ys xs = false → xs = ys
  | [], [], _, _ => rfl
  | [], y :: ys, h, _ => by cases h
  | x :: xs, [], _, h => by cases h
  | x :: xs, y :: ys, h1, h2 => by
    have h1 : (decide (x < y) || (decide (x = y) && ltL xs ys)) = false := h1
    have h2 : (decide (y < x) || (decide (y = x) && ltL ys xs)) = false := h2
    simp only [Bool.or_eq_false_iff, decide_eq_false_iff_not, Bool.and_eq_false_iff] at h1 h2
    have e : x = y := by omega
    subst e
    rw [ltL_tri (h1.2.resolve_left fun z => z rfl) (h2.2.resolve_left fun z => z rfl)]
theorem ltL_tr : ∀ {xs ys zs : List Int}, ltL xs ys = true → ltL ys zs = true → ltL xs zs = true
  | [], [], zs, h, _ => by cases h
  | [], y :: ys, [], _, h => by cases h
  | [], y :: ys, z :: zs, _, _ => rfl
  | x :: xs, [], zs, h, _ => by cases h
  | x :: xs, y :: ys, [], _, h => by cases h
  | x :: xs, y :: ys, z :: zs, h1, h2 => by
    have h1 : (decide (x < y) || (decide (x = y) && ltL xs ys)) = true := h1
    have h2 : (decide (y < z) || (decide (y = z) && ltL ys zs)) = true := h2
    show (decide (x < z) || (decide (x = z) && ltL xs zs)) = true
    simp only [Bool.or_eq_true, Bool.and_eq_true, decide_eq_true_eq] at h1 h2 ⊢
    rcases h1 with h1 | ⟨h1, h3⟩
    · rcases h2 with h2 | ⟨h2, h4⟩ <;> (left; omega)
    · rcases h2 with h2 | ⟨h2, h4⟩
      · left; omega
      · exact .inr ⟨by omega, ltL_tr h3 h4⟩
theorem ltq_irr (p : Int × List Int) : ltq p p = false := by
  unfold ltq
  rw [ltL_irr]
  simp
theorem ltq_tri {p q : Int × List Int} (h1 : ltq p q = false) (h2 : ltq q p = false) : p = q := by
  unfold ltq at h1 h2
  simp only [Bool.or_eq_false_iff, decide_eq_false_iff_not, Bool.and_eq_false_iff] at h1 h2
  have e : p.1 = q.1 := by omega
  have e2 := ltL_tri (h1.2.resolve_left fun z => z e) (h2.2.resolve_left fun z => z e.symm)
  cases p
  cases q
  cases e
  cases e2
  rfl
theorem ltq_tr {p q r : Int × List Int} (h1 : ltq p q = true) (h2 : ltq q r = true) : ltq p r = true := by
  unfold ltq at h1 h2 ⊢
  simp only [Bool.or_eq_true, Bool.and_eq_true, decide_eq_true_eq] at h1 h2 ⊢
  rcases h1 with h1 | ⟨h1, h3⟩
  · rcases h2 with h2 | ⟨h2, h4⟩ <;> (left; omega)
  · rcases h2 with h2 | ⟨h2, h4⟩
    · left; omega
    · exact .inr ⟨by omega, ltL_tr h3 h4⟩
/-- (a, xs) < (b, ys) -/
def ltQW : D → D → (D → Prop) → Prop
  | .tup [.int i, .lst xs], .tup [.int j, .lst ys], k => ∃ ns ms : List Int, xs = ns.map D.int ∧ ys = ms.map D.int ∧ k (.bl (ltq (i, ns) (j, ms)))
  | _, _, _ => False
theorem ltQW_e (i j : Int) (xs ys : List D) (k : D → Prop) : (ltQW (.tup [.int i, .lst xs]) (.tup [.int j, .lst ys]) k) = (∃ ns ms : List Int, xs = ns.map D.int ∧ ys = ms.map D.int ∧ k (.bl (ltq (i, ns) (j, ms)))) := Eq.trans rfl rfl
/-- sorted(xs) of such pairs -/
def sortedQ : List D → (List D → Prop) → Prop
  | [.lst xs], k => ∃ qs : List (Int × List Int), xs = qs.map qD ∧ ∀ qs' : List (Int × List Int), qs'.Perm qs → qs'.Pairwise (fun a b => ltq b a = false) → k (qs'.map qD)
  | _, _ => False
theorem sortedQ_e (xs : List D) (k : List D → Prop) : (sortedQ [.lst xs] k) = (∃ qs : List (Int × List Int), xs = qs.map qD ∧ ∀ qs' : List (Int × List Int), qs'.Perm qs → qs'.Pairwise (fun a b => ltq b a = false) → k (qs'.map qD)) := Eq.trans rfl rfl
/-! side = _law_pick(row, [one, two]); at = ..; side[at] = .. -/
def pickBr (i s a : Nat) (t2 t3 : WE) (xs : List D) (E : En) (S : Sl) : Prop :=
  t2 (((S.set s .un).set i .un).set s (.own xs)) fun d S1 => S1 = ((S.set s .un).set i .un).set s (.own xs) ∧
    t3 ((((S.set s .un).set i .un).set s (.own xs)).set a (.dat d)) fun z S3 => S3 = (((S.set s .un).set i .un).set s (.own xs)).set a (.dat d) ∧
      intS d fun j => ∃ m, ixD xs.length j = some m ∧ E.nx (((((((S.set s .un).set i .un).set s (.own xs)).set a (.dat d)).set s (.own (xs.set m z))).set s .un).set i (.own (xs.set m z)))
def sPick3 (r0 i1 i2 s a : Nat) (t2 t3 : WE) : WS := fun E S => (s < S.length ∧ a < S.length) ∧ getS S r0 = .dat .row ∧ ownS (getS S i1) fun xs => ownS (getS S i2) fun ys => pickBr i1 s a t2 t3 xs E S ∧ pickBr i2 s a t2 t3 ys E S
theorem sPick3_e (r0 i1 i2 s a : Nat) (t2 t3 : WE) (E : En) (S : Sl) : sPick3 r0 i1 i2 s a t2 t3 E S = ((s < S.length ∧ a < S.length) ∧ getS S r0 = .dat .row ∧ ownS (getS S i1) fun xs => ownS (getS S i2) fun ys => pickBr i1 s a t2 t3 xs E S ∧ pickBr i2 s a t2 t3 ys E S) := Eq.trans rfl rfl
/-- sum of a tuple of whole numbers -/
def sumT : List D → (D → Prop) → Prop
  | [.tup xs], k => ∃ ns : List Int, xs = ns.map D.int ∧ k (.int ns.sum)
  | _, _ => False
theorem sumT_e (xs : List D) (k : D → Prop) : (sumT [.tup xs] k) = (∃ ns : List Int, xs = ns.map D.int ∧ k (.int ns.sum)) := Eq.trans rfl rfl
end DL

set_option Elab.async false
set_option linter.all false
set_option maxRecDepth 100000
set_option maxHeartbeats 4000000
/-! Lists of one's own, changed in place. -/
namespace DL
open PySem PySem.Spec PyProof.Rows L2
section
variable {X : Cx} {c : Cd} {EX : Str → Prop} {k : Nat} {a b e : Expr} {es rest : List Expr} {pos : Pos}
theorem own_of {F H : Hp} {S : Sl} {σ : Sg} {i : Nat} {ds : List D} (r : Rep c F S σ H) (hs : getS S i = .own ds) : ∃ p vs, σ[i]? = some (some (.ref p)) ∧ H p = some (.lst vs) ∧ RvL c.pr F ds vs ∧ F p = none ∧ Nn c.H0 p ∧ p ≠ c.pr := by
  have q := r.slot i
  rw [hs] at q
  exact q
theorem getS_own_lt {S : Sl} {i : Nat} {ds : List D} (hs : getS S i = .own ds) : i < S.length := getS_lt (by rw [hs]; simp)
theorem Rep.mut {F H : Hp} {S : Sl} {σ : Sg} {i : Nat} {ds ds' : List D} {p : Addr} {vs vs' : List V} (r : Rep c F S σ H) (hs : getS S i = .own ds) (hσ : σ[i]? = some (some (.ref p))) (hH : H p = some (.lst vs)) (rl : RvL c.pr F ds' vs') : Rep c F (S.set i (.own ds')) σ (upd H p (.lst vs')) := by
  obtain ⟨p', ws, e1, h1, q, n1, n2, n3⟩ := own_of r hs
  rw [hσ] at e1
  cases e1
  have hi := getS_own_lt hs
  have am : Amb c.K c.T c.pr c.ps c.xs (upd H p (.lst vs')) := r.amb.upd hH lst_nt (fun q => lst_nc q) n3 (by
    by_cases e : p = c.ps
    · rcases r.amb0.scr with (z | ⟨o, z⟩) | z
      · exact absurd n2 (not_nn (e ▸ z) lst_nt)
      · exact absurd n2 (not_nn (e ▸ z) frz_nt)
      · exact .inr z
    · exact .inl e)
  have kp : Keep c.pr H (upd H p (.lst vs')) ∨ True := .inr trivial
  refine ⟨r.amb0, am, ⟨fun b o hb n t => ?_, fun b nb => ?_⟩, ⟨fun b o hb => ?_, r.fz.npr, r.fz.ntb⟩, r.gr, fun j => ?_, fun j l q a1 a2 => ?_, by rw [List.length_set]; exact r.len⟩
  · have ne : b ≠ p := fun z => n2 _ (z ▸ hb) t
    rw [upd_ne ne]
    exact r.keep.kp b o hb n t
  · by_cases e : b = p
    · subst e
      exact not_nn upd_same lst_nt
    · obtain ⟨o, ho, t⟩ := nn_ex (r.keep.dom b nb)
      exact not_nn (by rw [upd_ne e]; exact ho) t
  · have ne : b ≠ p := fun z => by rw [z, n1] at hb; cases hb
    rw [upd_ne ne]
    exact r.fz.le b o hb
  · by_cases hj : i = j
    · subst hj
      rw [getS_set_self hi]
      exact ⟨p, vs', hσ, upd_same, rl, n1, n2, n3⟩
    · rw [getS_set_ne hj]
      have q := r.slot j
      have ne : ∀ {p'}, ((∃ xs, getS S j = .own xs) ∨ (∃ k, getS S j = .ownI k) ∨ ∃ k, getS S j = .ownT k) → σ[j]? = some (some (.ref p')) → p' ≠ p := fun {p'} k1 k2 z => hj (r.apart i j p ⟨.inl ⟨_, hs⟩, hσ⟩ ⟨k1, by rw [k2, z]⟩)
      cases e : getS S j with
      | un => trivial
      | dat d' => rw [e] at q; exact q
      | own ds => rw [e] at q; obtain ⟨p', vs, e1, h1, q⟩ := q; exact ⟨p', vs, e1, by rw [upd_ne (ne (.inl ⟨_, e⟩) e1)]; exact h1, q⟩
      | ownI ds => rw [e] at q; obtain ⟨p', vs, e1, h1, q⟩ := q; exact ⟨p', vs, e1, by rw [upd_ne (ne (.inr (.inl ⟨_, e⟩)) e1)]; exact h1, q⟩
      | ownT ds => rw [e] at q; obtain ⟨p', vs, e1, h1, q⟩ := q; exact ⟨p', vs, e1, by rw [upd_ne (ne (.inr (.inr ⟨_, e⟩)) e1)]; exact h1, q⟩
  · have back : ∀ {j q}, OwnAt (S.set i (.own ds')) σ j q → OwnAt S σ j q := fun {j q} ⟨h1, h2⟩ => by
      by_cases hj : i = j
      · subst hj
        exact ⟨.inl ⟨_, hs⟩, h2⟩
      · rw [getS_set_ne hj] at h1
        exact ⟨h1, h2⟩
    exact r.apart j l q (back a1) (back a2)
theorem ownS_ex {x : SV} {k : List D → Prop} (h : ownS x k) : ∃ xs, x = .own xs ∧ k xs := by
  cases x with
  | own xs => exact ⟨xs, rfl, h⟩
  | _ => exact h.elim
theorem s_append {i : Nat} {x : Str} {t : WE} {p apos cpos : Pos} (he : DE X c e t) (B : Ctx X c EX k) (hN : X.N[i]? = some x := by rfl) (hv : Vis X.env.scope x := by first | exact Or.inl rfl | exact Or.inr (Or.inl rfl) | exact Or.inr (Or.inr rfl)) (hd : (x == ("__debug__" : Str)) = false := by decide) (hcd : (x == ("__classdict__" : Str)) = false := by decide)
    (hbase : attributeBase (.Name x p) "append" X.env (eval (.Name x p) X.env) = eval (.Name x p) X.env := by rfl)
    (hfew : ((backTo cpos (starEach (e :: []) X.env)).all (fun x => !x.1) && (backToKw cpos (keywordEach [] X.env)).all (fun x => x.1.isSome) && decide ((e :: []).length + ([] : List Keyword).length + (if ([] : List Keyword).isEmpty then 0 else 1) < 30)) = true := by rfl)
    (hline : (apos.endLine == cpos.line) = true := by rfl) (hs : starEach (e :: []) X.env = (false, eval e X.env) :: starEach [] X.env := by rfl) (hplain : (backTo cpos (starEach [] X.env)).any (·.1) = false := by rfl) :
    DSt X c (.Expr (.Call (.Attribute (.Name x p) "append" apos) [e] [] cpos) pos) (sAppend i t) := (ps_expr (pe_bm PySem.F.plainAttrs_list PySem.F.slot_list_append PySem.F.type_list_append mt_append (pe_var hN hv hd hcd) (pa_cons he pa_nil hs) hbase hfew hline hs hplain)).imp fun D σ H h => by
  obtain ⟨F, S, E, r, h, k⟩ := h
  have h : ownS (getS S i) fun _ => t S fun d S1 => ownS (getS S1 i) fun xs => xs.length < 1000000 ∧ E.nx (S1.set i (.own (xs ++ [d]))) := h
  obtain ⟨ds, es, h⟩ := ownS_ex h
  obtain ⟨q0, vs, e1, hH, _⟩ := own_of r es
  refine ⟨.ref q0, e1, .inl ⟨rfl, vs, .inl (.inl hH)⟩, F, S, _, r, h, fun d S1 v F1 H1 q n1 r1 rv => ?_⟩
  obtain ⟨ds1, es1, q1, q⟩ := ownS_ex q
  obtain ⟨p1, ws, e2, hH1, rl, _⟩ := own_of r1 es1
  rw [e1] at e2
  cases e2
  exact ⟨_, ws, v, rfl, rfl, hH1, by rw [rl.length]; exact line_lt (by omega), k.nx F1 _ σ _ n1.le (r1.mut es1 e1 hH1 (rl.append (RvL.one rv))) q⟩
theorem s_extend {i : Nat} {x : Str} {t : WE} {p apos cpos : Pos} (he : DE X c e t) (B : Ctx X c EX k) (hN : X.N[i]? = some x := by rfl) (hv : Vis X.env.scope x := by first | exact Or.inl rfl | exact Or.inr (Or.inl rfl) | exact Or.inr (Or.inr rfl)) (hd : (x == ("__debug__" : Str)) = false := by decide) (hcd : (x == ("__classdict__" : Str)) = false := by decide)
    (hbase : attributeBase (.Name x p) "extend" X.env (eval (.Name x p) X.env) = eval (.Name x p) X.env := by rfl)
    (hfew : ((backTo cpos (starEach (e :: []) X.env)).all (fun x => !x.1) && (backToKw cpos (keywordEach [] X.env)).all (fun x => x.1.isSome) && decide ((e :: []).length + ([] : List Keyword).length + (if ([] : List Keyword).isEmpty then 0 else 1) < 30)) = true := by rfl)
    (hline : (apos.endLine == cpos.line) = true := by rfl) (hs : starEach (e :: []) X.env = (false, eval e X.env) :: starEach [] X.env := by rfl) (hplain : (backTo cpos (starEach [] X.env)).any (·.1) = false := by rfl) :
    DSt X c (.Expr (.Call (.Attribute (.Name x p) "extend" apos) [e] [] cpos) pos) (sExtend i t) := (ps_expr (pe_bm PySem.F.plainAttrs_list PySem.F.slot_list_extend PySem.F.type_list_extend mt_extend (pe_var hN hv hd hcd) (pa_cons he pa_nil hs) hbase hfew hline hs hplain)).imp fun D σ H h => by
  obtain ⟨F, S, E, r, h, k⟩ := h
  have h : ownS (getS S i) fun _ => t S fun d S1 => ownS (getS S1 i) fun xs => lstS d fun ys => xs.length + ys.length ≤ 1000000 ∧ E.nx (S1.set i (.own (xs ++ ys))) := h
  obtain ⟨ds, es, h⟩ := ownS_ex h
  obtain ⟨q0, vs, e1, hH, _⟩ := own_of r es
  refine ⟨.ref q0, e1, .inl ⟨rfl, vs, .inl (.inl hH)⟩, F, S, _, r, h, fun d S1 v F1 H1 q n1 r1 rv => ?_⟩
  obtain ⟨ds1, es1, q⟩ := ownS_ex q
  obtain ⟨p1, ws, e2, hH1, rl, _⟩ := own_of r1 es1
  rw [e1] at e2
  cases e2
  cases d with
  | lst ys =>
    obtain ⟨q1, q⟩ := q
    obtain ⟨b, zs, rfl, hb, rz⟩ := rv
    exact ⟨_, b, ws, zs, rfl, rfl, hH1, r1.fz.le _ _ hb, by rw [rl.length, rz.length]; exact line_le q1, k.nx F1 _ σ _ n1.le (r1.mut es1 e1 hH1 (rl.append rz)) q⟩
  | _ => exact (show False from q).elim
theorem ixD_N {n : Nat} {i : Int} {m : Nat} (h : ixD n i = some m) : ixN n i = some m := h
theorem s_store {i : Nat} {x : Str} {ek : Expr} {tk t : WE} {p spos : Pos} (hk : DE X c ek tk) (he : DE X c e t) (B : Ctx X c EX k) (hN : X.N[i]? = some x := by rfl) (hv : Vis X.env.scope x := by first | exact Or.inl rfl | exact Or.inr (Or.inl rfl) | exact Or.inr (Or.inr rfl)) (hd : (x == ("__debug__" : Str)) = false := by decide) (hcd : (x == ("__classdict__" : Str)) = false := by decide)
    (ha : ∀ v, assign (.Subscript (.Name x p) ek spos) X.env v = (do
      let ov ← holding [v] (eval (.Name x p) X.env)
      let iv ← holding [v, ov] (eval ek X.env)
      standAt spos
      holding [v, ov, iv] (setItem ov iv v)
      release [v, ov, iv] []) := by intro _; rfl) (hs : swapsWithSole [.Subscript (.Name x p) ek spos] e pos.line X.env = pure false := by rfl) (hw : swappedStores [.Subscript (.Name x p) ek spos] e X.env = pure none := by rfl)
    (h1 : (assignEach [.Subscript (.Name x p) ek spos] X.env).map (·.2) = [assign (.Subscript (.Name x p) ek spos) X.env] := by rfl) : DSt X c (.Assign [.Subscript (.Name x p) ek spos] e pos) (sStore i tk t) := (ps_asg he (pg_sub (pe_var hN hv hd hcd) hk set_list ha) hs hw h1).imp fun D σ H h => by
  obtain ⟨F, S, E, r, h, k⟩ := h
  refine ⟨F, S, _, r, h, fun d S1 v F1 H1 q n1 r1 rv => ?_⟩
  obtain ⟨ds, es, q⟩ := ownS_ex q
  obtain ⟨q0, vs, e1, hH, _⟩ := own_of r1 es
  refine ⟨.ref q0, e1, F1, S1, _, r1, q, fun dk S2 vk F2 H2 q n2 r2 rk => ?_⟩
  obtain ⟨ds2, es2, q⟩ := ownS_ex q
  obtain ⟨p1, ws, e2, hH2, rl, _⟩ := own_of r2 es2
  rw [e1] at e2
  cases e2
  cases dk with
  | int j =>
    obtain ⟨m, hm, q⟩ := q
    have ek : vk = .int j := rk
    subst ek
    exact ⟨_, ws, j, m, rfl, rfl, hH2, by rw [rl.length]; exact ixD_N hm, k.nx F2 _ σ _ (n1.le.trans n2.le) (r2.mut es2 e1 hH2 (rl.set m (Rv.mono n2.le _ _ rv))) q⟩
  | _ => exact (show False from q).elim
end
end DL

set_option Elab.async false
set_option linter.all false
set_option maxRecDepth 100000
set_option maxHeartbeats 4000000
/-! Sets of ints made of lists: sorted(set(e)), len(set(e)). -/
namespace DL
open PySem PySem.Spec PyProof.Rows L2
/-- a set just made -/
abbrev freshS (w : World) : Obj := { cls := .type "set", dict := none, data := .set #[] 0 (.fresh 0 0 (!w.params.followText "set-order")) }
section
variable {P : Program} {w : World} {A : Around} {E : Value → Shared → Prop} {s : Shared} {l : Addr} {its : Array Value} {zs : List Int}
/-- what set.__init__ leaves of the list l's ints zs -/
def SetMade (w : World) (s : Shared) (zs : List Int) (t : Shared) : Prop := ∃ (g : Heap) (k m : Nat), t = { s with heap := g, toks := k } ∧ SetR w g s.heap.objs.size (fun j => decide (j ∈ zs)) m ∧ m ≤ zs.length ∧ ∀ b u, s.heap.get? b = some u → g.get? b = some u
theorem set_init_list (nh : A.handled = none) (il : s.heap.IsList l its) (ia : IntsAre its.toList zs) (small : zs.length + 1 < scanBound) {t : Shared} (et : t = { s with heap := s.heap.push (freshS w) }) :
    wpAny (model P w) A (Builtin.«set.__init__» ⟨[.ref s.heap.objs.size, .ref l], []⟩) (fun r u => r = .done (.ret .none) ∧ SetMade w s zs u) E t := by
  subst et
  have lenI : its.size = zs.length := (Array.length_toList (xs := its)).symm.trans (IntsAre.length ia)
  have atS : (s.heap.push (freshS w)).get? s.heap.objs.size = some (freshS w) := Heap.get?_push_size _ rfl
  have tyS : Shared.TypeIs { s with heap := s.heap.push (freshS w) } (.ref s.heap.objs.size) "set" := ⟨_, atS, rfl⟩
  obtain ⟨⟨oc, od, ot, os⟩, ho, c1, n0, d1⟩ := il
  simp only at c1 d1
  subst c1
  subst d1
  have ho' : (s.heap.push (freshS w)).get? l = some ⟨.type "list", od, .seq its n0, os⟩ := Heap.get?_push_of_some _ ho
  have n1 := F.sub_list_set
  have n2 := F.sub_list_frozenset
  have n3 : (Value.type "list" == Value.type "dict") = false := by decide
  have il2 : (s.heap.push (freshS w)).IsList l its := ⟨_, ho', rfl, n0, rfl⟩
  unfold Builtin.«set.__init__» noKeywords Builtin.Frozenset.updateFrom
  generalize hp : pyIter = pI
  wp_walk
  subst hp
  have lS : l < s.heap.objs.size := Heap.lt_size ho
  have szP : (s.heap.push (freshS w)).objs.size = s.heap.objs.size + 1 := Heap.size_push ..
  have apartI : l ≠ (s.heap.push (freshS w)).objs.size := fun z => by
    rw [szP] at z
    exact absurd z (Nat.ne_of_lt (Nat.lt_succ_of_lt lS))
  have apartS : s.heap.objs.size ∉ [(s.heap.push (freshS w)).objs.size, l] := fun z => by
    rw [szP] at z
    rcases List.mem_cons.mp z with z | z
    · exact absurd z (Nat.ne_of_lt (Nat.lt_succ_self _))
    · exact absurd (List.mem_singleton.mp z) (Nat.ne_of_gt lS)
  have each : ∀ (i : Nat) (v : Value), its[i]? = some v → ∃ k t, zs[i]? = some k ∧ v = .int k t := fun i v hv => by
    have il : i < zs.length := by
      rw [← lenI]
      exact (Array.getElem?_eq_some_iff.mp hv).1
    obtain ⟨t, e⟩ := PyProof.Rows.IntsAre.int_at ia i v ((Array.getElem?_toList).trans hv)
    exact ⟨zs[i], t, List.getElem?_eq_getElem il, e.trans (by rw [List.getD_eq_getElem?_getD, List.getElem?_eq_getElem il] <;> rfl)⟩
  refine wpAny_pyIter_list il2 (wpAny_bind (wpAny_runValue ?_))
  refine set_update_ints ((Walks.list (by simp [nh]) _ l apartI its).toS) s.heap.objs.size apartS zs lenI small each its.size 0 _ rfl (Nat.zero_le _) ⟨⟨_, Heap.get?_push_size _ rfl, rfl, rfl⟩, il2.push _⟩ ?first ?last
  case first => exact ⟨0, Nat.le_refl 0, setR_new_at (Heap.get?_push_of_some _ atS)⟩
  case last =>
    intro t m mv ml R
    obtain ⟨g, gs, d, k, os2⟩ := t
    obtain rfl : gs = s.gens := mv.gens
    obtain rfl : d = s.drawn := mv.drawn
    obtain rfl : os2 = s.os := mv.os
    show wpAny _ _ _ _ _ _
    refine wpAny_pure ?_
    show wpAny _ _ (ret Value.none) _ _ _
    refine wpAny_pure ⟨rfl, g, k, m, rfl, R, by omega, fun b u e => ?_⟩
    have b0 : b < s.heap.objs.size := Heap.lt_size e
    refine mv.heap b u (fun z => ?_) (Heap.get?_push_of_some _ (Heap.get?_push_of_some _ e))
    rw [szP] at z
    rcases List.mem_cons.mp z with z | z
    · exact absurd z (Nat.ne_of_lt b0)
    · exact absurd (List.mem_singleton.mp z) (Nat.ne_of_lt (Nat.lt_succ_of_lt b0))
theorem set_of_list (nh : A.handled = none) (il : s.heap.IsList l its) (ia : IntsAre its.toList zs) (small : zs.length + 1 < scanBound) {Q : Value → Shared → Prop} (hq : ∀ t, SetMade w s zs t → Q (.ref s.heap.objs.size) t) : wpAny (model P w) A (call (.type "set") [.ref l]) Q E s := by
  obtain ⟨c0, r0, mro⟩ := F.called_set.mro
  have q1 := F.called_set.made
  have q2 := F.called_set.sub
  refine wpAny_call (codeAny_of_tree ?_)
  show wpAny _ _ (callAny (.type "set") _) _ _ _
  refine wpAny_pure ⟨Code.quiet_builtin _ (by decide +kernel), codeAny_builtin F.entry_type_call ?_⟩
  rw [Around.under_plain (weight_type_call_type "set" [.ref l] []) rfl]
  have q3 := F.called_set.notType
  have q4 := F.called_set.canCreate
  have q5 := F.typeCall_set_1 (.ref l)
  repeat (any_goals (first | assumption | wp_step))
  refine codeAny_mono (code_set_led1 (.ref l) (E := E) (Q₁ := fun o t => o = .ref s.heap.objs.size ∧ t = { s with heap := s.heap.push (freshS w) }) ⟨rfl, rfl⟩) fun r t ht => ?_
  match r, ht with
  | .error e, ht => exact ht
  | .ok (.ret o), ht =>
    obtain ⟨rfl, rfl⟩ := ht
    have tyS : Shared.TypeIs { s with heap := s.heap.push (freshS w) } (.ref s.heap.objs.size) "set" := ⟨_, Heap.get?_push_size _ rfl, rfl⟩
    have q6 := F.called_set.init.lookup
    have q7 := F.called_set.init.bind (.ref s.heap.objs.size)
    repeat (any_goals (first | assumption | wp_step))
    refine codeAny_mono (codeAny_call_builtin (R := wants (fun r u => r = .none ∧ SetMade w s zs u) E) F.called_set.init.plain F.entry_set_init (check_set_init_1 tyS ?_)) fun r u hu => ?_
    · refine wpAny_mono (set_init_list (P := P) (w := w) (A := A.in1.in1) (E := E) nh il ia small rfl) (fun f u h => ?_) fun _ _ h => h
      obtain ⟨e, h⟩ := h
      subst e
      exact ⟨rfl, h⟩
    · match r, hu with
      | .error e, hu => exact hu
      | .ok (.ret r), hu =>
        obtain ⟨rfl, hm⟩ := hu
        obtain ⟨g, k, m, rfl, h1, h2, h3⟩ := hm
        repeat (any_goals (first | assumption | wp_step))
        exact hq _ ⟨g, k, m, rfl, h1, h2, h3⟩
end
/-! ### distinct things -/
theorem nodup_sub {ks : List Int} : ∀ {zs : List Int}, ks.Nodup → (∀ k ∈ ks, k ∈ zs) → ks.length ≤ zs.length ∧ (ks.length = zs.length → zs.Nodup ∧ ∀ z ∈ zs, z ∈ ks) := by
  induction ks with
  | nil =>
    intro zs _ _
    refine ⟨Nat.zero_le _, fun e => ?_⟩
    cases zs with
    | nil => exact ⟨List.nodup_nil, fun z h => h⟩
    | cons z zs => cases e
  | cons a ks ih =>
    intro zs nd sub
    obtain ⟨n1, n2⟩ := List.nodup_cons.mp nd
    have ha := sub a List.mem_cons_self
    have le := List.length_erase_of_mem ha
    have pos : 0 < zs.length := List.length_pos_of_mem ha
    obtain ⟨h1, h2⟩ := ih (zs := zs.erase a) n2 fun k hk => (List.mem_erase_of_ne (fun e => n1 (by rw [← e]; exact hk))).mpr (sub k (List.mem_cons_of_mem _ hk))
    have pm : zs.Perm (a :: zs.erase a) := List.perm_cons_erase ha
    refine ⟨by rw [List.length_cons]; omega, fun e => ?_⟩
    rw [List.length_cons] at e
    obtain ⟨h3, h4⟩ := h2 (by omega)
    refine ⟨(pm.nodup_iff).mpr (List.nodup_cons.mpr ⟨fun z => n1 (h4 a z), h3⟩), fun z hz => ?_⟩
    rcases List.mem_cons.mp (pm.mem_iff.mp hz) with e | hz
    · rw [e]; exact List.mem_cons_self
    · exact List.mem_cons_of_mem _ (h4 z hz)
/-! ### the rules -/
def rSetI (K : PySem.W.Frag) (w : World) : List V → Hp → VK → Prop := fun vs H Q => ∃ (l : Addr) (zs : List Int), vs = [.ref l] ∧ (SqL K H l (zs.map V.int) ∨ SqT K H l (zs.map V.int)) ∧ zs.length ≤ 4000 ∧ ∀ (p : Addr) (ks : List Int), H p = none → ks.Nodup → (∀ k, k ∈ ks ↔ k ∈ zs) → Q (.ref p) (upd H p (SetO w p (fun j => decide (j ∈ zs)) ks.length))
theorem setR_keys {w : World} {h : Heap} {a : Addr} {zs : List Int} {n : Nat} (R : SetR w h a (fun j => decide (j ∈ zs)) n) : ∃ ks : List Int, ks.Nodup ∧ (∀ k, k ∈ ks ↔ k ∈ zs) ∧ ks.length = n := by
  obtain ⟨o, es, ep, t, _, _, _, _, nd, hm, _, _, hn, _⟩ := R
  refine ⟨es.toList.map L2.keyOf, nd, fun k => ?_, by rw [List.length_map, Array.length_toList]; exact hn⟩
  rw [← hm k]
  exact decide_eq_true_iff
section
variable {X : Cx} {c : Cd} {EX : Str → Prop} {k : Nat} {a b e : Expr} {es rest : List Expr} {pos : Pos}
theorem cr_setI (hc : X.calm = true) : CallR X (.type "set") (rSetI X.K X.w) := by
  intro pins s σ H vs us Q I r h
  obtain ⟨l, zs, rfl, hq, hl, q⟩ := h
  rw [Vals.ref1 r]
  have bd : zs.length + 1 < scanBound := by unfold scanBound; omega
  have fin : ∀ (g : Heap) (t m : Nat), SetR X.w g s.heap.objs.size (fun j => decide (j ∈ zs)) m → (∀ b u, s.heap.get? b = some u → g.get? b = some u) → EP X pins σ Q (.ref s.heap.objs.size) { s with heap := g, toks := t } := fun g t m R kp => by
    obtain ⟨ks, k1, k2, rfl⟩ := setR_keys R
    exact ⟨.ref s.heap.objs.size, _, I.laid (t' := t) kp (Nat.le_refl _) (setO_new R), rfl, q _ ks (I.hok.fresh (Nat.le_refl _)) k1 k2⟩
  rcases hq with hq | hq
  · obtain ⟨its, rv, pl, hz⟩ := I.list hq
    exact set_of_list (I.ok.hd hc) pl.isList (by simpa using RZ.intsAre_vals rv) bd fun t ⟨g, k, m, e, R, ml, kp⟩ => by subst e; exact fin g k m R kp
  · obtain ⟨its, rv, pl, hz⟩ := I.tuple hq
    exact call_set_tupI zs (I.ok.hd hc) pl (by simpa using RZ.intsAre_vals rv) bd fun g k m R ml kp => fin g k m R kp
theorem cr_lenSO : CallR X (.builtin "len") (fun vs H Q => ∃ (a : Addr) (S : Int → Bool) (n : Nat), vs = [.ref a] ∧ H a = some (SetO X.w a S n) ∧ n ≤ 4000 ∧ Q (.int n) H) := by
  intro pins s σ H vs us Q I r h
  obtain ⟨a, S, n, rfl, ha, hl, q⟩ := h
  rw [Vals.ref1 r]
  obtain ⟨o, es, ep, t, ho, hx, hd, _, _, _, _, hf, hn, _⟩ := setO_get I ha
  exact call_len_set ho hx hd hf (by rw [hn]; omega) ⟨.int n, H, I.tok _, ⟨_, by rw [hn]⟩, q⟩
/-- xs: whole numbers -/
theorem pk_ints {F H : Hp} {ns : List Int} {v : V} {d : D} (fz : Fz c.pr F H) (p : Pk c.pr F H d v) (e : d = .lst (ns.map D.int) ∨ d = .tup (ns.map D.int)) {K : PySem.W.Frag} : ∃ a, v = .ref a ∧ (SqL K H a (ns.map V.int) ∨ SqT K H a (ns.map V.int)) := by
  rcases e with rfl | rfl
  · obtain ⟨a, e, h⟩ := lst_ints (K := K) p
    exact ⟨a, e, .inl h⟩
  · obtain ⟨a, vs, rfl, h1, rl, _⟩ := p.sqt (K := K) fz
    rw [rl.ints] at h1
    exact ⟨a, rfl, .inr h1⟩
theorem dl_sset {p p2 q : Pos} {t : WSr} (hc : X.calm = true) (h : DS X c e t) (hm : X.mg "sorted" = none) (hm2 : X.mg "set" = none) (hg : Gl X "sorted" := by rfl) (hg2 : Gl X "set" := by rfl)
    (he : starEach (e :: []) X.env = (false, eval e X.env) :: starEach [] X.env := by rfl) (hpl : (backTo q (starEach [] X.env)).any (·.1) = false := by rfl)
    (he2 : starEach (.Call (.Name "set" p2) [e] [] q :: []) X.env = (false, eval (.Call (.Name "set" p2) [e] [] q) X.env) :: starEach [] X.env := by rfl) (hpl2 : (backTo pos (starEach [] X.env)).any (·.1) = false := by rfl) :
    DFr X c (.Call (.Name "sorted" p) [.Call (.Name "set" p2) [e] [] q] [] pos) (wUnL ssetW t) := (pe_callB (cr_sortedSet hc) hg hm (by decide +kernel) (pa_cons (pe_callTy (cr_setI hc) hg2 hm2 (by decide +kernel) (pa_cons h pa_nil he) (by decide) (by decide) he hpl) pa_nil he2) (by decide) (by decide) he2 hpl2).imp fun σ H Q h => by
  obtain ⟨F, S, R, rp, h, kk⟩ := h
  refine ⟨F, S, _, rp, h, fun x S1 v F1 H1 q n1 r1 rx => ?_⟩
  obtain ⟨d, pd, q⟩ := okV_pk r1 q rx
  obtain ⟨zs, ed, hl, q⟩ := q
  obtain ⟨l, rfl, hs⟩ := pk_ints (K := X.K) r1.fz pd ed
  refine ⟨l, zs, rfl, hs, by omega, fun p ks hp k1 k2 => ?_⟩
  obtain ⟨n2, r2⟩ := r1.fresh (o := SetO X.w p (fun j => decide (j ∈ zs)) ks.length) hp
  have hk : ks.length < 64 := by
    have := (nodup_sub k1 fun k hk => (k2 k).mp hk).1
    omega
  refine ⟨p, _, _, rfl, upd_same, hk, fun ns p' h1 h2 h3 hp' => ?_⟩
  obtain ⟨n3, r3⟩ := r2.fresh (o := .lst (ns.map V.int)) hp'
  exact kk _ S1 _ _ _ (q ns h1 fun k => (h2 k).trans decide_eq_true_iff) ((n1.trans n2).trans n3) r3 (newL r2 (n1.trans n2) hp' RvL.ofInts)
theorem de_lset {p p2 q : Pos} {t : WSr} (hc : X.calm = true) (h : DS X c e t) (hm : X.mg "len" = none) (hm2 : X.mg "set" = none) (hg : Gl X "len" := by rfl) (hg2 : Gl X "set" := by rfl)
    (he : starEach (e :: []) X.env = (false, eval e X.env) :: starEach [] X.env := by rfl) (hpl : (backTo q (starEach [] X.env)).any (·.1) = false := by rfl)
    (he2 : starEach (.Call (.Name "set" p2) [e] [] q :: []) X.env = (false, eval (.Call (.Name "set" p2) [e] [] q) X.env) :: starEach [] X.env := by rfl) (hpl2 : (backTo pos (starEach [] X.env)).any (·.1) = false := by rfl) :
    DE X c (.Call (.Name "len" p) [.Call (.Name "set" p2) [e] [] q] [] pos) (wUn lsetW t) := (pe_callB cr_lenSO hg hm (by decide +kernel) (pa_cons (pe_callTy (cr_setI hc) hg2 hm2 (by decide +kernel) (pa_cons h pa_nil he) (by decide) (by decide) he hpl) pa_nil he2) (by decide) (by decide) he2 hpl2).imp fun σ H Q h => by
  obtain ⟨F, S, R, rp, h, kk⟩ := h
  refine ⟨F, S, _, rp, h, fun x S1 v F1 H1 q n1 r1 rx => ?_⟩
  obtain ⟨d, pd, q⟩ := okV_pk r1 q rx
  obtain ⟨zs, ed, hl, q⟩ := q
  obtain ⟨l, rfl, hs⟩ := pk_ints (K := X.K) r1.fz pd ed
  refine ⟨l, zs, rfl, hs, hl, fun p ks hp k1 k2 => ?_⟩
  obtain ⟨n2, r2⟩ := r1.fresh (o := SetO X.w p (fun j => decide (j ∈ zs)) ks.length) hp
  have hk : ks.length ≤ 4000 := by
    have := (nodup_sub k1 fun k hk => (k2 k).mp hk).1
    omega
  exact ⟨p, _, _, rfl, upd_same, hk, kk _ S1 _ _ _ (q ks k1 k2) (n1.trans n2) r2 rfl⟩
end
end DL

set_option Elab.async false
set_option linter.all false
set_option maxRecDepth 100000
set_option maxHeartbeats 4000000
/-! a, b = x, y and a, b, c = x, y, z. -/
namespace DL
open PySem PySem.Spec PyProof.Rows L2
section
variable {X : Cx} {c : Cd} {EX : Str → Prop} {k : Nat} {a b e : Expr} {es rest : List Expr} {pos : Pos}
theorem NvR.step {S1 S2 : Sl} {σ : Sg} {F1 F2 H H1 H2 : Hp} {x : SV} {v : V} (h : NvR c S1 σ F1 H H1 x v) (n : Nx c.pr S1 σ F1 H1 S2 F2 H2) : NvR c S2 σ F2 H H2 x v := by
  obtain ⟨rs, ow⟩ := h
  have key : ∀ {p : Addr} {o : HO}, v = .ref p → (∀ p, v = .ref p → Nn H p ∧ ¬ Owned S1 σ p) → H1 p = some o → nt o → p ≠ c.pr → F1 p = none → H2 p = some o ∧ F2 p = none := fun {p o} ev ow hp t np fp => by
    refine ⟨n.kp p o hp np t (ow p ev).2, ?_⟩
    cases e : F2 p with
    | none => rfl
    | some u =>
      rcases n.new p (by rw [e]; simp) with z | z | z
      · exact absurd fp z
      · exact absurd z (not_nn hp t)
      · exact absurd z (ow p ev).2
  have own' : (∀ p, v = .ref p → Nn H p ∧ ¬ Owned S1 σ p) → ∀ p, v = .ref p → Nn H p ∧ ¬ Owned S2 σ p := fun ow p e => ⟨(ow p e).1, fun z => (ow p e).2 (n.own p z)⟩
  cases x with
  | un => exact ow.elim
  | dat d =>
    obtain ⟨v', e, rv⟩ := rs
    exact ⟨⟨v', e, Rv.mono n.le _ _ rv⟩, trivial⟩
  | own ds =>
    obtain ⟨p, vs, e, hp, rl, m1, m2, m3⟩ := rs
    have ev : v = .ref p := by injection e with e; injection e
    obtain ⟨h2, f2⟩ := key ev ow hp lst_nt m3 m1
    exact ⟨⟨p, vs, e, h2, RvL.mono n.le _ _ rl, f2, m2, m3⟩, own' ow⟩
  | ownI ds =>
    obtain ⟨p, vs, e, hp, rl, m1, m2, m3⟩ := rs
    have ev : v = .ref p := by injection e with e; injection e
    obtain ⟨h2, f2⟩ := key ev ow hp dK_nt m3 m1
    exact ⟨⟨p, vs, e, h2, RvI.mono n.le _ _ rl, f2, m2, m3⟩, own' ow⟩
  | ownT ds =>
    obtain ⟨p, vs, e, hp, rl, m1, m2, m3⟩ := rs
    have ev : v = .ref p := by injection e with e; injection e
    obtain ⟨h2, f2⟩ := key ev ow hp dT_nt m3 m1
    exact ⟨⟨p, vs, e, h2, RvT.mono n.le _ _ rl, f2, m2, m3⟩, own' ow⟩
/-- what is held stands -/
theorem NvR.stands {S : Sl} {σ : Sg} {F H H1 : Hp} {x : SV} {v : V} (h : NvR c S σ F H H1 x v) {p : Addr} (e : v = .ref p) (o : (∃ xs, x = .own xs) ∨ (∃ k, x = .ownI k) ∨ ∃ k, x = .ownT k) : ¬ Nn H1 p := by
  obtain ⟨rs, ow⟩ := h
  rcases o with ⟨_, rfl⟩ | ⟨_, rfl⟩ | ⟨_, rfl⟩
  · obtain ⟨p', vs, e', hp, _⟩ := rs
    rw [e] at e'
    cases e'
    exact not_nn hp lst_nt
  · obtain ⟨p', vs, e', hp, _⟩ := rs
    rw [e] at e'
    cases e'
    exact not_nn hp dK_nt
  · obtain ⟨p', vs, e', hp, _⟩ := rs
    rw [e] at e'
    cases e'
    exact not_nn hp dT_nt
/-- behind the setting of another slot, whose thing stood when this one was made -/
theorem NvR.after {S : Sl} {σ : Sg} {F H1 H2 : Hp} {x y : SV} {v w : V} {i : Nat} (hl : S.length = σ.length) (hy : NvR c S σ F H1 H2 y w) (sx : ∀ p, v = .ref p → ((∃ xs, x = .own xs) ∨ (∃ k, x = .ownI k) ∨ ∃ k, x = .ownT k) → ¬ Nn H1 p) : NvR c (S.set i x) (σ.set i (some v)) F H1 H2 y w := by
  obtain ⟨rs, ow⟩ := hy
  have own' : (∀ p, w = .ref p → Nn H1 p ∧ ¬ Owned S σ p) → ∀ p, w = .ref p → Nn H1 p ∧ ¬ Owned (S.set i x) (σ.set i (some v)) p := fun ow p e => ⟨(ow p e).1, fun ⟨l, z⟩ => by
    by_cases hli : l = i
    · subst hli
      obtain ⟨z1, z2⟩ := z
      have hi : l < S.length := by
        have : getS (S.set l x) l ≠ .un := by rcases z1 with ⟨_, q⟩ | ⟨_, q⟩ | ⟨_, q⟩ <;> rw [q] <;> simp
        have := getS_lt this
        rwa [List.length_set] at this
      rw [getS_set_self hi] at z1
      rw [List.getElem?_set_self (by rw [← hl]; exact hi)] at z2
      have ev : v = .ref p := by injection z2 with q; injection q
      exact sx p ev z1 (ow p e).1
    · exact (ow p e).2 ⟨l, own_set_ne hli z⟩⟩
  refine ⟨rs, ?_⟩
  cases y with
  | un => exact ow
  | dat d => trivial
  | own ds => exact own' ow
  | ownI ds => exact own' ow
  | ownT ds => exact own' ow
theorem s_par2 {i j : Nat} {x y : Str} {ta tb : WN} {px py pt : Pos} {kt k2 pt2} (B : Ctx X c EX k) (ha : DN X c a ta) (hb : DN X c b tb) (hi : X.N[i]? = some x := by rfl) (hj : X.N[j]? = some y := by rfl) (hij : i ≠ j := by decide) (hx : X.env.scope.names.lookup x = some .local := by rfl) (hy : X.env.scope.names.lookup y = some .local := by rfl)
    (hw : swappedStores [.Tuple [.Name x px, .Name y py] kt pt] (.Tuple [a, b] k2 pt2) X.env = pure (some [x, y]) := by rfl) (hs : swapsWithSole [.Tuple [.Name x px, .Name y py] kt pt] (.Tuple [a, b] k2 pt2) pos.line X.env = pure false := by rfl)
    (e1 : starEach (a :: [b]) X.env = (false, eval a X.env) :: starEach [b] X.env := by rfl) (e2 : starEach (b :: []) X.env = (false, eval b X.env) :: starEach [] X.env := by rfl) :
    DSt X c (.Assign [.Tuple [.Name x px, .Name y py] kt pt] (.Tuple [a, b] k2 pt2) pos) (sPar [i, j] (wNs ta (wNs tb wNs0))) := (ps_par B.calm B.nd hi hj hij hx hy (pa_cons ha (pa_cons hb pa_nil e2) e1) hw hs).imp fun D σ H h => by
  obtain ⟨F, S, E, r, h, kk⟩ := h
  refine ⟨F, S, _, r, h, fun xa S1 v F1 H1 q n1 r1 m1 => ⟨F1, S1, _, r1, q, fun xb S2 w F2 H2 q n2 r2 m2 => ⟨v, w, rfl, ?_⟩⟩⟩
  have ra := r2.setN (i := i) (m1.step n2)
  have rb := ra.setN (i := j) (m2.after (i := i) r2.len fun p e o => m1.stands e o)
  exact kk.nx F2 _ _ H2 (n1.le.trans n2.le) rb q.2
theorem s_par3 {i j l : Nat} {x y z : Str} {cc : Expr} {ta tb tc : WN} {px py pz pt : Pos} {kt k2 pt2} (B : Ctx X c EX k) (ha : DN X c a ta) (hb : DN X c b tb) (hc : DN X c cc tc) (hi : X.N[i]? = some x := by rfl) (hj : X.N[j]? = some y := by rfl) (hl : X.N[l]? = some z := by rfl) (hij : i ≠ j := by decide) (hil : i ≠ l := by decide) (hjl : j ≠ l := by decide)
    (hx : X.env.scope.names.lookup x = some .local := by rfl) (hy : X.env.scope.names.lookup y = some .local := by rfl) (hz : X.env.scope.names.lookup z = some .local := by rfl)
    (hw : swappedStores [.Tuple [.Name x px, .Name y py, .Name z pz] kt pt] (.Tuple [a, b, cc] k2 pt2) X.env = pure (some [x, y, z]) := by rfl) (hs : swapsWithSole [.Tuple [.Name x px, .Name y py, .Name z pz] kt pt] (.Tuple [a, b, cc] k2 pt2) pos.line X.env = pure false := by rfl)
    (e1 : starEach (a :: [b, cc]) X.env = (false, eval a X.env) :: starEach [b, cc] X.env := by rfl) (e2 : starEach (b :: [cc]) X.env = (false, eval b X.env) :: starEach [cc] X.env := by rfl) (e3 : starEach (cc :: []) X.env = (false, eval cc X.env) :: starEach [] X.env := by rfl) :
    DSt X c (.Assign [.Tuple [.Name x px, .Name y py, .Name z pz] kt pt] (.Tuple [a, b, cc] k2 pt2) pos) (sPar [i, j, l] (wNs ta (wNs tb (wNs tc wNs0)))) := (ps_par3 B.calm B.nd hi hj hl hij hil hjl hx hy hz (pa_cons ha (pa_cons hb (pa_cons hc pa_nil e3) e2) e1) hw hs).imp fun D σ H h => by
  obtain ⟨F, S, E, r, h, kk⟩ := h
  refine ⟨F, S, _, r, h, fun xa S1 v F1 H1 q n1 r1 m1 => ⟨F1, S1, _, r1, q, fun xb S2 w F2 H2 q n2 r2 m2 => ⟨F2, S2, _, r2, q, fun xd S3 u F3 H3 q n3 r3 m3 => ⟨v, w, u, rfl, ?_⟩⟩⟩⟩
  have ra := r3.setN (i := i) ((m1.step n2).step n3)
  have mb : NvR c (S3.set i xa) (σ.set i (some v)) F3 H1 H3 xb w := (m2.step n3).after (i := i) r3.len fun p e o => m1.stands e o
  have rb := ra.setN (i := j) mb
  have mc1 : NvR c (S3.set i xa) (σ.set i (some v)) F3 H2 H3 xd u := m3.after (i := i) r3.len fun p e o => (m1.step n2).stands e o
  have mc := mc1.after (i := j) (x := xb) (v := w) ra.len fun p e o => m2.stands e o
  have rc := rb.setN (i := l) mc
  exact kk.nx F3 _ _ H3 ((n1.le.trans n2.le).trans n3.le) rc q.2
theorem de_notT {t : WSr} (h : DS X c e t) : DE X c (.UnaryOp .Not e pos) (wNotT t) := (pe_notT h).imp fun σ H Q h => by
  obtain ⟨F, S, R, rp, h, kk⟩ := h
  refine ⟨F, S, _, rp, h, fun x S1 v F1 H1 q n1 r1 rx => ?_⟩
  obtain ⟨d, pd, q⟩ := okV_pk r1 q rx
  obtain ⟨b, t, q⟩ := tru_of (X := X) r1.fz pd q
  exact ⟨b, t, kk (.bl (!b)) _ _ _ _ q n1 r1 rfl⟩
end
end DL

set_option Elab.async false
set_option linter.all false
set_option maxRecDepth 100000
set_option maxHeartbeats 4000000
/-! Calls by keywords alone. -/
namespace DL
open PySem PySem.Spec PyProof.Rows L2
section
variable {X : Cx} {c : Cd} {EX : Str → Prop} {k : Nat} {a b e : Expr} {es rest : List Expr} {pos : Pos} {T : List (Addr × Str)} {CB : Addr}
theorem pe_callN0 {CX : CXT} {f : Addr} {fd : FuncData} {ps ks : List Str} {sp : Sp} {E : XK} {x : Str} {p : Pos} {kws : List Keyword} {tk : TA} {g : List Value → List Value → List Value} {gV : List V → List V → List V} (F : FnOk X.prog X.w X.K X.mg X.base CX k f fd ps sp) (hr : Room k X.A) (hg : Gl X x) (hm : X.mg x = some (.ref f)) (hk : PySem.W.keepIn X.K (.ref f) = true) (hb : KBn X.K fd ps 0 ks g gV) (hx : Passes CX X E)
    (hkw : PK X kws tk) (hall : (backToKw pos (keywordEach kws X.env)).all (·.1.isSome) = true := by rfl) (hks : (backToKw pos (keywordEach kws X.env)).filterMap (·.1) = ks := by rfl)
    (hdb : (x == ("__debug__" : Str)) = false := by decide)
    (hpl : ((backTo pos (starEach [] X.env)).any (·.1) || (backToKw pos (keywordEach kws X.env)).any (·.1.isNone)) = false := by rfl) :
    PE X (.Call (.Name x p) [] kws pos) (fun σ H Q => tk σ H fun zs H2 => zs.length = ks.length ∧ sp (gV [] zs) H2 Q E) := by
  refine ⟨fun pins s σ H Q I h => ?_⟩
  refine wpAny_Call_Name_kw (ld_glob I hg hm ?_ hdb)
  refine PySem.W.callWith_KW0 (h₀ := X.base) I.ok.mod.kin hk hall ?_ hpl
  refine thn (hkw.run pos pins s σ H _ I h) fun ws s2 ⟨zs, H2, I2, rz, l2, q2⟩ => ⟨I2.kIn, ?_⟩
  rw [hks]
  exact run_fnN F hr hb hx I2 .nil rz rfl l2 q2
theorem de_callK0 {x : Str} {p : Pos} {ps ks : List Str} {s : DSp} {tk : WA} {j m : Nat} {kws : List Keyword} (G : Callee X.prog X.w X.K X.mg X.base T CB x j ps s) (KB : KwB X.K X.mg x ps 0) (B : Ctx X c EX k) (hT : c.T = T) (hC : c.CB = CB) (hj : j ≤ k) (hkw : DKw X c kws tk) (hg : Gl X x := by rfl)
    (hdr : ps = ks := by rfl) (hm : ks.length = m := by rfl) (hall : (backToKw pos (keywordEach kws X.env)).all (·.1.isSome) = true := by rfl) (hks : (backToKw pos (keywordEach kws X.env)).filterMap (·.1) = ks := by rfl)
    (hdb : (x == ("__debug__" : Str)) = false := by decide)
    (hpl : ((backTo pos (starEach [] X.env)).any (·.1) || (backToKw pos (keywordEach kws X.env)).any (·.1.isNone)) = false := by rfl) : DE X c (.Call (.Name x p) [] kws pos) (wCallK s EX 0 m wA0 tk) := by
  subst hT hC hdr hm
  obtain ⟨f, fd, F, hm, hk, hb, oc, od, osl, lk⟩ := G.ex
  refine (pe_callN0 F (B.room.mono hj) hg hm hk (show KBn X.K fd ps 0 ps _ _ from KB _ _ _ _ _ hm lk) B.px hkw hall hks hdb hpl).imp fun σ H Q h => ?_
  obtain ⟨F0, S, R, rp, h, kk⟩ := h
  refine ⟨F0, S, _, rp, h, fun es S2 zs F2 H2 ⟨l1, l2, q⟩ n2 r2 rl2 => ⟨rl2.length.trans l2, ?_⟩⟩
  refine ⟨c.pr, c.ps, c.xs, F2, es, _, _, B.hK ▸ r2.amb, r2.fz, rl2, q, fun d v F' H' q kp am z g rv => ?_, fun nm dd H' q kp am e => ⟨nm, dd, rfl, rfl, e, r2.keep.trans kp, B.hK ▸ am, q⟩⟩
  obtain ⟨nx, r3⟩ := r2.kept kp (B.hK ▸ am) z g
  exact kk d S2 v F' H' q (n2.trans nx) r3 rv
end
end DL

set_option Elab.async false
set_option linter.all false
set_option maxRecDepth 100000
set_option maxHeartbeats 4000000
/-! More operators. -/
namespace DL
open PySem PySem.Spec PyProof.Rows L2
section
variable {X : Cx} {c : Cd} {EX : Str → Prop} {k : Nat} {a b e : Expr} {es rest : List Expr} {pos : Pos}
theorem Ctx.hu5 (B : Ctx X c EX k) : X.A.units + 65 < cLine := by have := B.room.un; omega
theorem any_ints (i : Int) (ns : List Int) : inV (.int i) (ns.map V.int) = decide (i ∈ ns) := by
  unfold inV
  rw [List.any_map, Bool.eq_iff_iff, List.any_eq_true, decide_eq_true_eq]
  constructor
  · rintro ⟨n, hn, e⟩
    have e : (n == i) = true := e
    rw [beq_iff_eq] at e
    rw [← e]
    exact hn
  · intro h
    exact ⟨i, h, by show (i == i) = true; simp⟩
theorem flat_ints (ns : List Int) : (ns.map V.int).all flatV = true := by
  rw [List.all_map, List.all_eq_true]
  exact fun _ _ => rfl
theorem toPys_any (xs : List D) (d : D) : (toPys xs).any (fun z => PyData.eqv z (toPy d)) = inD d xs := by
  unfold inD
  induction xs with
  | nil => rfl
  | cons x xs ih =>
    show (PyData.eqv (toPy x) (toPy d) || (toPys xs).any _) = _
    rw [ih]
    rfl
theorem dp_lst {F H : Hp} {v : V} {xs : List D} {K : PySem.W.Frag} (p : Pk c.pr F H (.lst xs) v) (fz : Fz c.pr F H) (s : ∀ x ∈ xs, Sh 8 x) : Dp K H v (.list (toPys xs)) := by
  have := p.dp (n := 9) fz (show Sh 9 (.lst xs) from s) (K := K)
  exact this
theorem sh_l9 {xs : List D} (s : ∀ x ∈ xs, Sh 8 x) : SeqAt.shaped (.list (toPys xs)) = true := sh_shaped (n := 9) (show Sh 9 (.lst xs) from s) (by decide)
theorem o_in2 (hu : X.A.units + 65 < cLine) : DOp X c (compareOp .In) inW2 := by
  intro pins s σ H x y v u Q I rx ry q
  obtain ⟨F, d, e, R, fz, np, p1, p2, q, k⟩ := q
  cases e with
  | lst xs =>
    rw [inW2_l] at q
    refine op_inD hu pins s σ H x y v u Q I rx ry ⟨toPy d, toPys xs, p1.dp fz q.1.1, dp_lst p2 fz q.1.2, sh_shaped q.1.1 (by decide), sh_l9 q.1.2, ?_⟩
    rw [toPys_any]
    exact k _ _ _ _ q.2 (.refl _) (.refl _ _) fz rfl
  | tup xs =>
    cases d with
    | int i =>
      obtain ⟨ns, rfl, q⟩ := q
      obtain ⟨p, vs, rfl, h1, rl, f1⟩ := p2.sqt (K := X.K) fz
      have ev := RvL.ints rl
      subst ev
      have ex : x = .int i := p1
      subst ex
      refine op_in_seq pins s σ H _ _ v u Q I rx ry ⟨p, _, rfl, .inr h1, rfl, flat_ints ns, ?_⟩
      rw [any_ints]
      exact k _ _ _ _ q (.refl _) (.refl _ _) fz rfl
    | _ => exact q.elim
  | _ => cases d <;> exact q.elim
theorem o_nin2 (hu : X.A.units + 65 < cLine) : DOp X c (compareOp .NotIn) ninW2 := by
  intro pins s σ H x y v u Q I rx ry q
  obtain ⟨F, d, e, R, fz, np, p1, p2, q, k⟩ := q
  cases e with
  | lst xs =>
    rw [ninW2_l] at q
    refine op_notInD hu pins s σ H x y v u Q I rx ry ⟨toPy d, toPys xs, p1.dp fz q.1.1, dp_lst p2 fz q.1.2, sh_shaped q.1.1 (by decide), sh_l9 q.1.2, ?_⟩
    rw [toPys_any]
    exact k _ _ _ _ q.2 (.refl _) (.refl _ _) fz rfl
  | tup xs =>
    cases d with
    | int i =>
      obtain ⟨ns, rfl, q⟩ := q
      obtain ⟨p, vs, rfl, h1, rl, f1⟩ := p2.sqt (K := X.K) fz
      have ev := RvL.ints rl
      subst ev
      have ex : x = .int i := p1
      subst ex
      refine op_notIn_seq pins s σ H _ _ v u Q I rx ry ⟨p, _, rfl, .inr h1, rfl, flat_ints ns, ?_⟩
      rw [if_pos rfl, any_ints]
      exact k _ _ _ _ q (.refl _) (.refl _ _) fz rfl
    | _ => exact q.elim
  | _ => cases d <;> exact q.elim
end
end DL

set_option Elab.async false
set_option linter.all false
set_option maxRecDepth 100000
set_option maxHeartbeats 4000000
/-! tuple * 0, tuple * 1. -/
namespace DL
open PySem PySem.Spec PyProof.Rows L2
theorem tuple_mul1 (l : Addr) (items : Array Value) (n : Nat) (dd : Option Addr) (sl : Array (Option Value)) (x : Int) (u : Tok) (c0 : (decide (x < -(2 ^ 63)) || decide (x ≥ 2 ^ 63)) = false) (c1 : (items.isEmpty || x == 1) = true) :
    Meets (Builtin.«tuple.__mul__» ⟨[.ref l, .int x u], []⟩) (fun _ R s => s.heap.get? l = some { cls := .type "tuple", dict := dd, data := .seq items n, slots := sl } ∧ R (.ok (.ret (Value.ref l))) s) :=
  .of_wp fun prog w A R s h => by
    obtain ⟨hp, g, d, tk, os⟩ := s
    obtain ⟨hl, h⟩ := h
    have f1 := AutoSeq1.idx_int
    wp_walk using wpAny_loadPart' hl
    repeat (first
      | (refine wpAny_ite_false (decide_eq_false (by rw [c0]; exact Bool.false_ne_true)) ?_; wp_walk using wpAny_loadPart' hl)
      | (refine wpAny_ite_true (decide_eq_true (by rw [c1])) ?_; wp_walk using wpAny_loadPart' hl))
    exact ⟨_, rfl, h⟩
theorem tuple_mul0 (l : Addr) (items : Array Value) (n : Nat) (dd : Option Addr) (sl : Array (Option Value)) (x : Int) (u : Tok) (c0 : (decide (x < -(2 ^ 63)) || decide (x ≥ 2 ^ 63)) = false) (c1 : (items.isEmpty || x == 1) = false) (c2 : (decide (x ≤ 0) || items.isEmpty) = true) :
    Meets (Builtin.«tuple.__mul__» ⟨[.ref l, .int x u], []⟩) (fun _ R s => s.heap.get? l = some { cls := .type "tuple", dict := dd, data := .seq items n, slots := sl } ∧ R (.ok (.ret (Value.ref s.heap.objs.size))) { s with heap := s.heap.push { cls := Value.type "tuple", data := Data.seq #[] }, toks := s.toks }) :=
  .of_wp fun prog w A R s h => by
    obtain ⟨hp, g, d, tk, os⟩ := s
    obtain ⟨hl, h⟩ := h
    have f1 := AutoSeq1.idx_int
    wp_walk using wpAny_loadPart' hl
    repeat (first
      | (refine wpAny_ite_false (decide_eq_false (by rw [c0]; exact Bool.false_ne_true)) ?_; wp_walk using wpAny_loadPart' hl)
      | (refine wpAny_ite_false (decide_eq_false (by rw [c1]; exact Bool.false_ne_true)) ?_; wp_walk using wpAny_loadPart' hl)
      | (refine wpAny_ite_true (decide_eq_true (by rw [c2])) ?_; wp_walk using wpAny_loadPart' hl))
    exact ⟨_, rfl, h⟩
def rRepT2 (K : PySem.W.Frag) : R2 := fun x y H Q => ∃ l k xs, x = .ref l ∧ y = .int k ∧ SqT K H l xs ∧ -1000 ≤ k ∧ k ≤ 1000 ∧ xs.length ≤ 1000 ∧ ((xs = [] ∨ k = 1) → Q (.ref l) H) ∧ (xs ≠ [] → k ≠ 1 → ∀ p, H p = none → Q (.ref p) (upd H p (.tup (List.replicate k.toNat xs).flatten)))
theorem op_repT2 {X : Cx} : OpR X (binaryOp .Mult) (rRepT2 X.K) := by
  intro pins s σ H x y v u Q I rx ry h
  obtain ⟨l, k, xs, rfl, rfl, hT, h1, h2, hz, q1, q2⟩ := h
  by_cases two : xs ≠ [] ∧ 2 ≤ k
  · exact op_repT pins s σ H _ _ v u Q I rx ry ⟨l, k, xs, rfl, rfl, hT, two.1, two.2, h2, hz, q2 two.1 (by omega)⟩
  cases rx
  obtain ⟨t, rfl⟩ := ry
  obtain ⟨its, r, ⟨⟨cls, dd, data, sl⟩, ho, hc, n, hd⟩, hs⟩ := I.tuple hT
  simp only at hc hd
  subst hc hd
  have hle : its.length = xs.length := r.length.symm
  have c0 : (decide (k < -(2 ^ 63)) || decide (k ≥ 2 ^ 63)) = false := by
    rw [decide_eq_false (by omega), decide_eq_false (by omega)] <;> rfl
  have emp : its.toArray.isEmpty = true ↔ xs = [] := by
    constructor
    · intro e
      have : its = [] := by simpa using e
      rw [this] at hle
      exact List.eq_nil_of_length_eq_zero hle.symm
    · intro e
      rw [e] at hle
      have : its = [] := List.eq_nil_of_length_eq_zero hle
      rw [this]
      rfl
  by_cases one : xs = [] ∨ k = 1
  · have c1 : (its.toArray.isEmpty || k == 1) = true := by
      rw [Bool.or_eq_true, emp, beq_iff_eq]
      exact one
    refine wpAny_binaryOp_repeat_ref (T := "tuple") (U := "int") (by decide) ⟨_, ho, rfl⟩ (fun s' => typeIs_int s' k t) noFill_tuple_mul F.fills_int_mul F.slot_int_rmul repeat_tuple F.slot_int_index.lookup
      (call_meets F.slot_int_rmul (typeIs_int s k t) F.entry_int_rmul (F.args_int_rmul_2 _ _) (int_rmul_tuple k t l its.toArray n dd sl)
        ⟨ho, rfl, ⟨_, ho, rfl⟩, call_meets F.slot_tuple_mul ⟨_, ho, rfl⟩ F.entry_tuple_mul (F.args_tuple_mul_2 _ _) (tuple_mul1 l its.toArray n dd sl k t c0 c1) ⟨ho, ?_⟩⟩)
    exact ⟨.ref l, H, I, rfl, q1 one⟩
  · have n1 : xs ≠ [] := fun e => one (.inl e)
    have n2 : k ≠ 1 := fun e => one (.inr e)
    have hi : its.toArray.isEmpty = false := by
      rw [← Bool.not_eq_true, emp]
      exact n1
    have c1 : (its.toArray.isEmpty || k == 1) = false := by
      rw [hi, Bool.false_or]
      exact beq_eq_false_iff_ne.mpr n2
    have k0 : k ≤ 0 := Int.not_lt.mp fun z => two ⟨n1, by omega⟩
    have c2 : (decide (k ≤ 0) || its.toArray.isEmpty) = true := by rw [decide_eq_true k0]; rfl
    refine wpAny_binaryOp_repeat_ref (T := "tuple") (U := "int") (by decide) ⟨_, ho, rfl⟩ (fun s' => typeIs_int s' k t) noFill_tuple_mul F.fills_int_mul F.slot_int_rmul repeat_tuple F.slot_int_index.lookup
      (call_meets F.slot_int_rmul (typeIs_int s k t) F.entry_int_rmul (F.args_int_rmul_2 _ _) (int_rmul_tuple k t l its.toArray n dd sl)
        ⟨ho, rfl, ⟨_, ho, rfl⟩, call_meets F.slot_tuple_mul ⟨_, ho, rfl⟩ F.entry_tuple_mul (F.args_tuple_mul_2 _ _) (tuple_mul0 l its.toArray n dd sl k t c0 c1 c2) ⟨ho, ?_⟩⟩)
    refine ⟨.ref s.heap.objs.size, _, I.laid (t' := s.toks) (o := .tup []) (fun b ob q => Heap.get?_push_of_some _ q) (Nat.le_refl _) ?_, rfl, ?_⟩
    · exact ⟨by show 0 ≤ sizeLine; omega, [], .nil, IsTup.new _ _⟩
    · have := q2 n1 n2 _ (I.hok.fresh (Nat.le_refl _))
      rw [show k.toNat = 0 by omega] at this
      exact this
end DL

set_option Elab.async false
set_option linter.all false
set_option maxRecDepth 100000
set_option maxHeartbeats 4000000
/-! sorted of a tuple of whole numbers. -/
namespace DL
open PySem PySem.Spec PyProof.Rows L2
def rSortedTI (K : PySem.W.Frag) : List V → Hp → VK → Prop := fun vs H Q => ∃ (a : Addr) (ns : List Int), vs = [V.ref a] ∧ SqT K H a (ns.map V.int) ∧
  ∀ (ns' : List Int) (p : Addr), ns'.Perm ns → ns'.Pairwise (· ≤ ·) → H p = none → Q (.ref p) (upd H p (.lst (ns'.map V.int)))
theorem cr_sortedTI {X : Cx} : CallR X (.builtin "sorted") (rSortedTI X.K) := by
  intro pins s σ H vs us Q I r h
  obtain ⟨a, ns, rfl, hs, q⟩ := h
  obtain ⟨its, rv, ⟨o, ho, hc, n, hd⟩, hz⟩ := I.tuple hs
  rw [Vals.ref1 r]
  have hi := rv.ints
  have hz' : its.length ≤ sizeLine := by rw [← rv.length]; exact hz
  refine Calls.call_function_entry kind_sorted plain_sorted entry_sorted (args_sorted1 _) ?_
  unfold Builtin.«sorted»
  refine wpAny_bind (m := checkCount "sorted" 1 1 _) (wpAny_pure ?_)
  refine wpAny_bind (wpAny_collect_seq a (.inr rfl) ho hc hd (fun h' hk => ?_) (by simpa using hz'))
  have I1 : Inv X pins σ H { s with heap := h' } := I.kept (t' := s.toks) hk
  refine wpAny_bind (wpAny_newList ?_ (by simpa using hz'))
  have hL : (h'.push (seqObj "list" its.toArray 0)).get? h'.objs.size = some (seqObj "list" its.toArray 0) := Heap.get?_push_size _ rfl
  have I2 : Inv X pins σ (upd H h'.objs.size (.lst (ns.map V.int))) { s with heap := h'.push (seqObj "list" its.toArray 0) } :=
    I1.laid (t' := s.toks) (fun b o e => Heap.get?_push_of_some _ e) (Nat.le_refl _) (show ObjOk X.prog X.w _ _ _ (.lst (ns.map V.int)) from ⟨hz, its, 0, rv, hL⟩)
  have fr := I1.hok.fresh (Nat.le_refl _)
  show wpAny _ _ _ _ _ { s with heap := h'.push (seqObj "list" its.toArray 0) }
  refine wpAny_bind (wpAny_holding (wpAny_call_entry PyProof.Rows.slot_list_sort ⟨_, hL, rfl⟩ PyProof.Rows.entry_list_sort (SrtO.list_sort_ord SrtO.swo_int hL hz' (fun h2 => SrtO.ints_sortable hi h2) fun out h1 h2 => ⟨_, rfl, ?_⟩) (PyProof.Rows.args_list_sort _)))
  obtain ⟨k1, k2, k3⟩ := SrtO.ints_out hi h1 h2
  obtain ⟨ep, he'⟩ := PyProof.Rows.sortedHeap_at (vs := its) (out := out.toArray) hL
  have hlen : ((out.map SrtO.iv).map V.int).length ≤ sizeLine := by
    rw [List.length_map, k2.length_eq]
    rw [List.length_map] at hz
    exact hz
  have I3 := I2.write (x := h'.objs.size) (e := h'.objs.size) (o := .lst ((out.map SrtO.iv).map V.int)) (t' := s.toks) (h' := sortedHeap (h'.push (seqObj "list" its.toArray 0)) h'.objs.size its out.toArray) (by rw [upd_same]; trivial) (.inl rfl) (fun b u hb hu => by rw [PyProof.Rows.sortedHeap_old hb (Heap.lt_size hu)]; exact hu) ⟨_, he'⟩ ⟨hlen, out, ep, vals_of_ints k1, he'⟩
  rw [upd_upd] at I3
  exact wpAny_pure ⟨_, rfl, .ref h'.objs.size, _, I3, rfl, q _ _ k2 k3 fr⟩
end DL

set_option Elab.async false
set_option linter.all false
set_option maxRecDepth 100000
set_option maxHeartbeats 4000000
/-! list, tuple of a range. -/
namespace DL
open PySem PySem.Spec PyProof.Rows L2
open AutoSeq1 (wpAny_loadPart')
section
variable {prog : Program} {w : World} {A : Around} {E : Value → Shared → Prop} {s : Shared}
theorem collect_range {Q : List Value → Shared → Prop} {r : Addr} {a b c : Int} {t u v : Tok} {n : Nat} (hh : A.handled = none) (hr : IsRange s.heap r a b c t u v) (hsmall : Builtin.Range.small a b c = true)
    (hn : Builtin.Range.rangeSize a b c = n) (hlen : n ≤ 2 ^ 24)
    (hQ : ∀ h' tk acc, (∀ b o, s.heap.get? b = some o → h'.get? b = some o) → ItemsOf (fun i v => ∃ t, v = .int (a + i * c) t) acc n → Q acc.toList { s with heap := h', toks := tk }) :
    wpAny (model prog w) A (collect (.ref r)) Q E s := by
  unfold collect
  refine wpAny_bind (wpAny_runValue (codeAny_builtin F.entry_proto_collect ?_))
  rw [Around.under_plainId F.plain_proto_collect _]
  show wpAny _ A.in1 (newList [] >>= fun l => again (.builtin "list.__iadd__" ⟨[l, .ref r], []⟩)) _ _ s
  refine wpAny_bind (wpAny_newObj_type ?_)
  refine wpAny_pure ⟨plainId_quiet F.plain_list_iadd _, codeAny_builtin F.entry_list_iadd ?_⟩
  rw [Around.under_plainId F.plain_list_iadd _]
  show wpAny _ A.in1 (Builtin.List.listExtendWith (.ref s.heap.objs.size) (.ref r) (.ref s.heap.objs.size)) _ _ _
  have hS : (s.heap.push { cls := .type "list", data := .seq ([] : List Value).toArray }).get? s.heap.objs.size = some { cls := .type "list", data := .seq #[] 0 } := Heap.get?_push_size _ rfl
  refine wpAny_mono (wpAny_extend_range (A := A) (s := { s with heap := s.heap.push { cls := .type "list", data := .seq ([] : List Value).toArray } }) (R := fun r s' => ∃ h' tk acc, r = .ok (.ret (.ref s.heap.objs.size)) ∧ s' = { s with heap := h', toks := tk } ∧ (∃ c', h'.get? s.heap.objs.size = some { cls := .type "list", dict := none, data := .seq acc c', slots := #[] }) ∧ (∀ b o, s.heap.get? b = some o → h'.get? b = some o) ∧ ItemsOf (fun i v => ∃ t, v = .int (a + i * c) t) acc n)
    hh (Heap.get?_push_of_some _ hr) hsmall hn hlen _ _ 0 hS (fun h' tk acc c' hk hS' hacc => ⟨h', tk, acc, rfl, rfl, ⟨c', hS'⟩, fun b o e => hk b o (Nat.ne_of_lt (Heap.lt_size e)) (Heap.get?_push_of_some _ e), hacc⟩)) (fun fin s' h => ?_) (fun e s' h => ?_)
  · have fin' : ∀ {s'}, (∃ h' tk acc, s' = { s with heap := h', toks := tk } ∧ (∃ c', h'.get? s.heap.objs.size = some { cls := .type "list", dict := none, data := .seq acc c', slots := #[] }) ∧ (∀ b o, s.heap.get? b = some o → h'.get? b = some o) ∧ ItemsOf (fun i v => ∃ t, v = .int (a + i * c) t) acc n) → wpAny (model prog w) A (match Value.ref s.heap.objs.size with
      | Value.ref a => do
        match (← load a).data with
          | Data.seq xs _ => pure xs.toList
          | _ => unsupported "internal:collect"
      | _ => unsupported "internal:collect") Q E s' := by
      rintro _ ⟨h', tk, acc, rfl, ⟨c', hS'⟩, hk, hacc⟩
      show wpAny _ A (load s.heap.objs.size >>= _) _ _ _
      refine wpAny_bind (wpAny_load hS' ?_)
      exact wpAny_pure (hQ h' tk acc hk hacc)
    cases fin with
    | done f =>
      obtain ⟨h', tk, acc, e, h⟩ := h
      cases e
      exact fin' ⟨h', tk, acc, h⟩
    | again c' => exact ⟨h.1, codeAny_mono h.2 fun r s'' hr => by obtain ⟨h', tk, acc, rfl, h⟩ := hr; exact fin' ⟨h', tk, acc, h⟩⟩
  · obtain ⟨_, _, _, e, _⟩ := h
    cases e
end
theorem meets_tuple_new_range (r : Addr) {a b c : Int} {t u v : Tok} {n : Nat} (hsmall : Builtin.Range.small a b c = true) (hn : Builtin.Range.rangeSize a b c = n) (hlen : n ≤ 2 ^ 24) :
    Meets (Builtin.«tuple.__new__» ⟨[.type "tuple", .ref r], []⟩)
      (fun A R s => A.handled = none ∧ IsRange s.heap r a b c t u v ∧ ∀ (h' : Heap) (tk : Nat) (acc : Array Value), (∀ b o', s.heap.get? b = some o' → h'.get? b = some o') → ItemsOf (fun i v => ∃ t, v = .int (a + i * c) t) acc n → R (.ok (.ret (.ref h'.objs.size))) { s with heap := h'.push { cls := .type "tuple", data := .seq acc }, toks := tk }) :=
  .of_wp fun prog w A R s h => by
    obtain ⟨hp, g, d, tk, os⟩ := s
    obtain ⟨hh, ht, h⟩ := h
    have hsub := sub_tuple_self
    have hinit := init_tuple_lookup
    have hmh := madeHere_tuple
    have hT : Shared.TypeIs ⟨hp, g, d, tk, os⟩ (.ref r) "range" := ⟨_, ht, rfl⟩
    have hh1 : A.in1.handled = none := hh
    wp_walk using wpAny_loadPart' ht, wpAny_typeOf hT, collect_range hh1 ht hsmall hn hlen
    intro h' tk' acc hk hacc
    show wpAny _ _ (Builtin.Tuple.tupleExact acc.toList.toArray >>= fun v => ret v) _ _ _
    unfold Builtin.Tuple.tupleExact
    have hz : acc.size ≤ sizeLine := by
      have := hacc.1
      rw [sizeLine_eq]
      omega
    refine wpAny_bind (wpAny_newObj_type ?_ (by show acc.toList.toArray.size ≤ sizeLine; simpa using hz))
    refine wpAny_pure ⟨_, rfl, ?_⟩
    have e : acc.toList.toArray = acc := by simp
    rw [e]
    exact h h' tk' acc hk hacc
end DL

set_option Elab.async false
set_option linter.all false
set_option maxRecDepth 100000
set_option maxHeartbeats 4000000
/-! sorted, list and tuple of a range, tuple * number, remove, pop. -/
namespace DL
open PySem PySem.Spec PyProof.Rows L2
section
variable {X : Cx} {c : Cd} {EX : Str → Prop} {k : Nat} {a b e : Expr} {es rest : List Expr} {pos : Pos}
theorem o_mul2 : DOp X c (binaryOp .Mult) mulW2 := by
  intro pins s σ H x y v u Q I rx ry q
  obtain ⟨F, d, e, R, fz, np, p1, p2, q, k⟩ := q
  cases d with
  | int i =>
    cases e with
    | int j => exact o_mul pins s σ H x y v u Q I rx ry ⟨F, .int i, .int j, R, fz, np, p1, p2, q, k⟩
    | _ => exact q.elim
  | tup xs =>
    cases e with
    | int j =>
      obtain ⟨q1, q2, q3, q⟩ := q
      obtain ⟨l, vs, rfl, h1, rl, f1⟩ := p1.sqt (K := X.K) fz
      have ey : y = .int j := p2
      subst ey
      refine op_repT2 pins s σ H _ _ v u Q I rx ry ⟨l, j, vs, rfl, rfl, h1, q2, q3, by rw [rl.length]; exact q1, fun w => ?_, fun w1 w2 p hp => ?_⟩
      · have e : (List.replicate j.toNat xs).flatten = xs := by
          rcases w with w | w
          · have : xs = [] := by have := rl.length; rw [w] at this; exact List.eq_nil_of_length_eq_zero this.symm
            rw [this]
            generalize j.toNat = m
            induction m with
            | zero => rfl
            | succ m ih => rw [List.replicate_succ, List.flatten_cons, ih]; rfl
          · rw [w]
            simp
        rw [e] at q
        exact k _ _ _ _ q (.refl _) (.refl _ _) fz ⟨l, vs, rfl, f1, rl⟩
      · have l2 := leF (o := .tup (List.replicate j.toNat vs).flatten) fz hp
        refine laid fz np k hp tup_nt q ⟨p, _, rfl, upd_same, RvL.rep (RvL.mono l2 _ _ rl) _⟩
    | _ => exact q.elim
  | _ => exact q.elim
/-- the key of a pair that stands in the heap -/
def keyP (H : Hp) : V → Int × Int
  | .ref t => match H t with
    | some (.tup [.int i, .int j]) => (i, j)
    | _ => (0, 0)
  | _ => (0, 0)
theorem pairs_rv {F H : Hp} (fz : Fz c.pr F H) : ∀ {ps : List (Int × Int)} {vs : List V}, RvL c.pr F (ps.map pD) vs → ps = vs.map (keyP H) ∧ ∀ x ∈ vs, Rv c.pr F (pD (keyP H x)) x ∧ ∃ t, x = V.ref t ∧ H t = some (.tup [.int (keyP H x).1, .int (keyP H x).2])
  | [], vs, r => by
    rw [show vs = [] from r]
    exact ⟨rfl, fun x hx => by cases hx⟩
  | p :: ps, vs, r => by
    obtain ⟨v, rest, rfl, r1, r2⟩ := r
    obtain ⟨e, all⟩ := pairs_rv fz r2
    obtain ⟨t, ws, rfl, h1, rl⟩ := id r1
    have ew : ws = [.int p.1, .int p.2] := by
      have := RvL.ints (ns := [p.1, p.2]) rl
      exact this
    subst ew
    have hH := fz.le _ _ h1
    have ek : keyP H (.ref t) = p := by
      simp only [keyP, hH]
    refine ⟨by rw [List.map_cons, ek, ← e], fun x hx => ?_⟩
    rcases List.mem_cons.mp hx with rfl | hx
    · rw [ek]
      exact ⟨r1, t, rfl, hH⟩
    · exact all x hx
theorem rv_pairs {F : Hp} {f : V → Int × Int} : ∀ {vs : List V}, (∀ x ∈ vs, Rv c.pr F (pD (f x)) x) → RvL c.pr F ((vs.map f).map pD) vs
  | [], _ => rfl
  | v :: vs, h => ⟨v, vs, rfl, h v List.mem_cons_self, rv_pairs fun x hx => h x (List.mem_cons_of_mem _ hx)⟩
theorem b_sorted : CallR X (.builtin "sorted") (LNl c sorted1) := by
  intro pins s σ H xs us Q I rx h
  obtain ⟨F, ds, R, fz, p, q, k⟩ := h
  match ds, q with
  | [.lst ys], q =>
    obtain ⟨v, rfl, p1⟩ := pks1 p
    obtain ⟨a, vs, rfl, h1, rl, _⟩ := p1.sql (K := X.K)
    rcases q with ⟨ns, rfl, q⟩ | ⟨ps, rfl, q⟩
    · rw [rl.ints] at h1
      exact cr_sortedI pins s σ H _ us Q I rx ⟨a, ns, rfl, h1, fun ns' p h2 h3 hp => k _ _ _ (q ns' h2 h3) hp RvL.ofInts⟩
    · obtain ⟨e, all⟩ := pairs_rv fz rl
      refine cr_sortedPO pins s σ H _ us Q I rx ⟨a, vs, keyP H, rfl, h1, fun x hx => (all x hx).2, fun ys p h2 h3 hp => ?_⟩
      refine k _ _ _ (q (ys.map (keyP H)) (by rw [e]; exact h3.perm.map _) ?_) hp (rv_pairs fun x hx => (all x (h3.perm.mem_iff.mp hx)).1)
      rw [List.pairwise_map]
      refine h2.imp fun {x y} w => ?_
      have w : SrtO.lexB (keyP H y) (keyP H x) = false := w
      have w2 : ¬ ((keyP H y).1 < (keyP H x).1 ∨ ((keyP H y).1 = (keyP H x).1 ∧ (keyP H y).2 < (keyP H x).2)) := fun z => by
        rw [SrtO.lexB_iff.mpr z] at w
        cases w
      unfold lexP
      omega
  | [.tup ys], q =>
    obtain ⟨v, rfl, p1⟩ := pks1 p
    obtain ⟨a, vs, rfl, h1, rl, h2⟩ := p1.sqt (K := X.K) fz
    obtain ⟨ns, rfl, q⟩ := q
    rw [rl.ints] at h1
    exact cr_sortedTI pins s σ H _ us Q I rx ⟨a, ns, rfl, h1, fun ns' p h2 h3 hp => k _ _ _ (q ns' h2 h3) hp RvL.ofInts⟩
  | [.non], q | [.bl _], q | [.int _], q | [.str _], q | [.dI _], q | [.dT _], q | [.row], q => exact q.elim
  | [], q => exact q.elim
  | d :: _ :: _, q => cases d <;> exact q.elim
/-! ### list(range(n)), tuple(range(n)) -/
theorem rng_vals {n : Nat} {acc : Array Value} (h : ItemsOf (fun i v => ∃ t, v = Value.int ((0 : Int) + (i : Int) * 1) t) acc n) : Vals ((List.range n).map fun (i : Nat) => V.int (0 + (i : Int))) acc.toList := by
  have hl : acc.toList.length = n := by rw [Array.length_toList]; exact h.1
  have key : ∀ (m : Nat) (us : List Value) (o : Nat), us.length = m → (∀ j v, us[j]? = some v → ∃ t, v = Value.int ((o + j : Nat) : Int) t) → Vals ((List.range m).map fun (i : Nat) => V.int ((o + i : Nat) : Int)) us := by
    intro m
    induction m with
    | zero =>
      intro us o e _
      rw [List.eq_nil_of_length_eq_zero e]
      exact .nil
    | succ m ih =>
      intro us o e hv
      match us, e with
      | u :: us, e =>
        obtain ⟨t, rfl⟩ := hv 0 u rfl
        rw [List.range_succ_eq_map, List.map_cons, List.map_map]
        refine .cons ⟨t, rfl⟩ ?_
        have := ih us (o + 1) (by simpa using e) fun j v hj => by
          obtain ⟨t, ht⟩ := hv (j + 1) v hj
          exact ⟨t, by rw [ht]; congr 2; omega⟩
        refine Eq.mp ?_ this
        congr 1
        refine List.map_congr_left fun i _ => ?_
        show V.int _ = V.int _
        congr 2
        omega
  have := key n acc.toList 0 hl fun j v hj => by
    obtain ⟨t, ht⟩ := h.2 j v (by rw [← hj, Array.getElem?_toList])
    exact ⟨t, by rw [ht]; congr 1; omega⟩
  have e : ((List.range n).map fun (i : Nat) => V.int ((0 + i : Nat) : Int)) = (List.range n).map fun (i : Nat) => V.int (0 + (i : Int)) := List.map_congr_left fun i _ => congrArg V.int (by omega)
  rw [← e]
  exact this
theorem size_of {j : Int} (h0 : 0 ≤ j ∨ j < 0) : Builtin.Range.rangeSize 0 j 1 = (j.toNat : Int) := by
  rw [rangeSize_one]
  split <;> omega
theorem pe_listRange {ta : TA} {p p2 q : Pos} (hc : X.calm = true) (ha : PA X [a] ta) (hm : X.mg "list" = none) (hm2 : X.mg "range" = none) (hg : Gl X "list" := by rfl) (hg2 : Gl X "range" := by rfl) (hs : starEach [a] X.env = [(false, eval a X.env)] := by rfl)
    (hs2 : starEach [.Call (.Name "range" p2) [a] [] q] X.env = (false, eval (.Call (.Name "range" p2) [a] [] q) X.env) :: starEach [] X.env := by rfl) :
    PE X (.Call (.Name "list" p) [.Call (.Name "range" p2) [a] [] q] [] pos) (fun σ H Q => ta σ H fun vs H1 => ∃ j : Int, vs = [.int j] ∧ -1000000 ≤ j ∧ j ≤ 1000000 ∧ ∀ p, H1 p = none → Q (.ref p) (upd H1 p (.lst ((List.range j.toNat).map fun (i : Nat) => V.int (0 + (i : Int)))))) := by
  refine ⟨fun pins s σ H Q I h => ?_⟩
  refine Call_ (ld_blt I hg hm boot_list ?_)
  refine PyProof.Rows.callWith_type1 (PyProof.Rows.args_cons ?_ hs2) hs2 rfl
  refine Call_ (ld_blt I hg2 hm2 boot_range (PyProof.Rows.callWith_type1 (thn (ha.run _ pins s σ H _ I h) fun us s1 ⟨vs, H1, I1, r1, q1⟩ => ?_) hs rfl))
  obtain ⟨j, e, j1, j2, q⟩ := q1
  subst e
  cases r1 with
  | cons r rr =>
    cases rr
    obtain ⟨t, rfl⟩ := r
    refine call_range_1 (PyProof.Rows.args_nil ?_)
    have I2 : Inv X pins σ H1 { s1 with heap := s1.heap.push { cls := .type "range", data := .fields #[.int 0 s1.toks, .int j t, .int 1 (s1.toks + 1)] }, toks := s1.toks + 1 + 1 } := I1.kept fun b o e => Heap.get?_push_of_some _ e
    refine call_list_range (a := 0) (b := j) (c := 1) (n := j.toNat) (I2.ok.hd hc) (IsRange.new ..) (small_one (by omega) (by omega) (by omega) (by omega)) (size_of (by omega)) (by omega) fun h' tk acc c' hk hS hacc => ?_
    have fr := I2.hok.fresh (Nat.le_refl _)
    refine ⟨.ref _, _, I2.laid (t' := tk) (o := .lst ((List.range j.toNat).map fun (i : Nat) => V.int (0 + (i : Int)))) hk (Nat.le_refl _) ⟨by rw [List.length_map, List.length_range, sizeLine_eq]; omega, acc.toList, c', rng_vals hacc, by rw [Array.toArray_toList]; exact hS⟩, rfl, q _ fr⟩
theorem pe_tupRange {ta : TA} {p p2 q : Pos} (hc : X.calm = true) (ha : PA X [a] ta) (hm : X.mg "tuple" = none) (hm2 : X.mg "range" = none) (hg : Gl X "tuple" := by rfl) (hg2 : Gl X "range" := by rfl) (hs : starEach [a] X.env = [(false, eval a X.env)] := by rfl)
    (hs2 : starEach [.Call (.Name "range" p2) [a] [] q] X.env = (false, eval (.Call (.Name "range" p2) [a] [] q) X.env) :: starEach [] X.env := by rfl) :
    PE X (.Call (.Name "tuple" p) [.Call (.Name "range" p2) [a] [] q] [] pos) (fun σ H Q => ta σ H fun vs H1 => ∃ j : Int, vs = [.int j] ∧ -1000000 ≤ j ∧ j ≤ 1000000 ∧ ∀ p, H1 p = none → Q (.ref p) (upd H1 p (.tup ((List.range j.toNat).map fun (i : Nat) => V.int (0 + (i : Int)))))) := by
  refine ⟨fun pins s σ H Q I h => ?_⟩
  refine Call_ (ld_blt I hg hm (show bootBuiltins "tuple" = some (.type "tuple") from by decide +kernel) ?_)
  refine PyProof.Rows.callWith_type1 (PyProof.Rows.args_cons ?_ hs2) hs2 rfl
  refine Call_ (ld_blt I hg2 hm2 boot_range (PyProof.Rows.callWith_type1 (thn (ha.run _ pins s σ H _ I h) fun us s1 ⟨vs, H1, I1, r1, q1⟩ => ?_) hs rfl))
  obtain ⟨j, e, j1, j2, q⟩ := q1
  subst e
  cases r1 with
  | cons r rr =>
    cases rr
    obtain ⟨t, rfl⟩ := r
    refine call_range_1 (PyProof.Rows.args_nil ?_)
    have I2 : Inv X pins σ H1 { s1 with heap := s1.heap.push { cls := .type "range", data := .fields #[.int 0 s1.toks, .int j t, .int 1 (s1.toks + 1)] }, toks := s1.toks + 1 + 1 } := I1.kept fun b o e => Heap.get?_push_of_some _ e
    refine callType_new F.called_tuple (by decide) (F.typeCall_tuple_1 _) (F.newCall_tuple_1 _) (fun obj => F.args_object_init_2 obj _) F.entry_tuple_new
      (meets_tuple_new_range _ (a := 0) (b := j) (c := 1) (n := j.toNat) (small_one (by omega) (by omega) (by omega) (by omega)) (size_of (by omega)) (by omega)) ⟨I2.ok.hd hc, IsRange.new .., fun h' tk acc hk hacc => ⟨⟨_, Heap.get?_push_size _ rfl, rfl⟩, ?_⟩⟩
    have I3 : Inv X pins σ H1 { s1 with heap := h', toks := tk } := I2.kept (t' := tk) hk
    have fr := I3.hok.fresh (Nat.le_refl _)
    refine ⟨.ref _, _, I3.laid (t' := tk) (o := .tup ((List.range j.toNat).map fun (i : Nat) => V.int (0 + (i : Int)))) (fun b o e => Heap.get?_push_of_some _ e) (Nat.le_refl _) ⟨by rw [List.length_map, List.length_range, sizeLine_eq]; omega, acc.toList, rng_vals hacc, by rw [Array.toArray_toList]; exact IsTup.new _ _⟩, rfl, q _ fr⟩
theorem rngD_rv {F : Hp} (lo : Int) (n : Nat) : RvL c.pr F (rngD lo n) ((List.range n).map fun (i : Nat) => V.int (lo + (i : Int))) := by
  rw [rngD_eq, show ((List.range n).map fun (i : Nat) => V.int (lo + (i : Int))) = ((List.range n).map fun (i : Nat) => lo + (i : Int)).map V.int by rw [List.map_map]; rfl]
  exact RvL.ofInts
theorem dl_lrng {t : WE} {p p2 q : Pos} (hc : X.calm = true) (h : DE X c a t) (hm : X.mg "list" = none) (hm2 : X.mg "range" = none) (hg : Gl X "list" := by rfl) (hg2 : Gl X "range" := by rfl) (hs : starEach [a] X.env = [(false, eval a X.env)] := by rfl)
    (he : starEach (a :: []) X.env = (false, eval a X.env) :: starEach [] X.env := by rfl)
    (hs2 : starEach [.Call (.Name "range" p2) [a] [] q] X.env = (false, eval (.Call (.Name "range" p2) [a] [] q) X.env) :: starEach [] X.env := by rfl) :
    DFr X c (.Call (.Name "list" p) [.Call (.Name "range" p2) [a] [] q] [] pos) (wUnL rg1 (wD t)) := (pe_listRange hc (pa_cons h pa_nil he) hm hm2 hg hg2 hs hs2).imp fun σ H Q h => by
  obtain ⟨F, S, R, rp, h, k⟩ := h
  have h : t S fun d S1 => rg1 d fun z => R z S1 := h
  refine ⟨F, S, _, rp, h, fun d S1 v F1 H1 q n1 r1 rv => ?_⟩
  cases d with
  | int j =>
    obtain ⟨⟨_, _, j1, j2⟩, q⟩ := q
    have ev : v = .int j := rv
    subst ev
    refine ⟨j, rfl, j1, j2, fun p hp => ?_⟩
    obtain ⟨nf, rf⟩ := r1.fresh (o := .lst ((List.range j.toNat).map fun (i : Nat) => V.int (0 + (i : Int)))) hp
    exact k _ S1 _ _ _ q (n1.trans nf) rf (newL r1 n1 hp (rngD_rv 0 _))
  | _ => exact (show False from q).elim
theorem de_trng {t : WE} {p p2 q : Pos} (hc : X.calm = true) (h : DE X c a t) (hm : X.mg "tuple" = none) (hm2 : X.mg "range" = none) (hg : Gl X "tuple" := by rfl) (hg2 : Gl X "range" := by rfl) (hs : starEach [a] X.env = [(false, eval a X.env)] := by rfl)
    (he : starEach (a :: []) X.env = (false, eval a X.env) :: starEach [] X.env := by rfl)
    (hs2 : starEach [.Call (.Name "range" p2) [a] [] q] X.env = (false, eval (.Call (.Name "range" p2) [a] [] q) X.env) :: starEach [] X.env := by rfl) :
    DE X c (.Call (.Name "tuple" p) [.Call (.Name "range" p2) [a] [] q] [] pos) (wUn tupRg (wD t)) := (pe_tupRange hc (pa_cons h pa_nil he) hm hm2 hg hg2 hs hs2).imp fun σ H Q h => by
  obtain ⟨F, S, R, rp, h, k⟩ := h
  have h : t S fun d S1 => tupRg d fun z => R z S1 := h
  refine ⟨F, S, _, rp, h, fun d S1 v F1 H1 q n1 r1 rv => ?_⟩
  cases d with
  | int j =>
    obtain ⟨⟨_, _, j1, j2⟩, q⟩ := q
    have ev : v = .int j := rv
    subst ev
    refine ⟨j, rfl, j1, j2, fun p hp => ?_⟩
    obtain ⟨f, g, l⟩ := r1.fz.new (o := .tup ((List.range j.toNat).map fun (i : Nat) => V.int (0 + (i : Int)))) hp tup_nt (r1.nepr hp)
    exact k _ S1 _ _ _ q (n1.trans (.grow l g)) (r1.grow l g f) ⟨p, _, rfl, upd_same, rngD_rv 0 _⟩
  | _ => exact (show False from q).elim
/-! ### x.remove(e), x.pop(e) -/
theorem s_remove {i : Nat} {x : Str} {t : WE} {p apos cpos : Pos} (he : DE X c e t) (B : Ctx X c EX k) (hN : X.N[i]? = some x := by rfl) (hv : Vis X.env.scope x := by first | exact Or.inl rfl | exact Or.inr (Or.inl rfl) | exact Or.inr (Or.inr rfl)) (hd : (x == ("__debug__" : Str)) = false := by decide) (hcd : (x == ("__classdict__" : Str)) = false := by decide)
    (hbase : attributeBase (.Name x p) "remove" X.env (eval (.Name x p) X.env) = eval (.Name x p) X.env := by rfl)
    (hfew : ((backTo cpos (starEach (e :: []) X.env)).all (fun x => !x.1) && (backToKw cpos (keywordEach [] X.env)).all (fun x => x.1.isSome) && decide ((e :: []).length + ([] : List Keyword).length + (if ([] : List Keyword).isEmpty then 0 else 1) < 30)) = true := by rfl)
    (hline : (apos.endLine == cpos.line) = true := by rfl) (hs : starEach (e :: []) X.env = (false, eval e X.env) :: starEach [] X.env := by rfl) (hplain : (backTo cpos (starEach [] X.env)).any (·.1) = false := by rfl) :
    DSt X c (.Expr (.Call (.Attribute (.Name x p) "remove" apos) [e] [] cpos) pos) (sRemove i t) := (ps_expr (pe_bm PySem.F.plainAttrs_list PySem.F.slot_list_remove PySem.F.type_list_remove mt_remove (pe_var hN hv hd hcd) (pa_cons he pa_nil hs) hbase hfew hline hs hplain)).imp fun D σ H h => by
  obtain ⟨F, S, E, r, h, k⟩ := h
  rw [sRemove_e] at h
  obtain ⟨ds, es, h⟩ := ownS_ex h
  obtain ⟨q0, vs, e1, hH, _⟩ := own_of r es
  refine ⟨.ref q0, e1, .inl ⟨rfl, vs, .inl (.inl hH)⟩, F, S, _, r, h, fun d S1 v F1 H1 q n1 r1 rv => ?_⟩
  obtain ⟨ds1, es1, ns, z, j, rfl, rfl, h1, h2, q⟩ := ownS_ex q
  obtain ⟨p1, ws, e2, hH1, rl, _⟩ := own_of r1 es1
  rw [e1] at e2
  cases e2
  rw [rl.ints] at hH1
  have ev : v = .int z := rv
  subst ev
  exact ⟨_, ns, z, j, rfl, rfl, hH1, h1, h2, k.nx F1 _ σ _ n1.le (r1.mut es1 e1 hH1 RvL.ofInts) q⟩
end
end DL

set_option Elab.async false
set_option linter.all false
set_option maxRecDepth 100000
set_option maxHeartbeats 4000000
/-! Comprehensions of two fors. -/
namespace DL
open PySem PySem.Spec PyProof.Rows L2
section
variable {X : Cx} {c : Cd} {EX : Str → Prop} {k : Nat} {tg tg1 a b e : Expr} {es rest : List Expr} {pos : Pos}
theorem lcD_imp {st : D → (Option D → Prop) → Prop} (m : ∀ x k k', (∀ o, k o → k' o) → st x k → st x k') : ∀ {xs : List D} {k k' : List D → Prop}, (∀ r, k r → k' r) → lcD st xs k → lcD st xs k'
  | [], _, _, i, h => i _ h
  | x :: xs, k, k', i, h => m x _ _ (fun o h => lcD_imp m (fun r => i _) h) h
theorem lc2_lift {w w1 : WI} {g g1 : WG} {t t1 : WTs} {te : WE} {vs vs1 sl sl1 : List Nat} (hsl : ∀ j ∈ sl, j ∈ vs) (hsl1 : ∀ j ∈ sl1, j ∈ vs1) {σ : Sg} {H : Hp} {Q : VK} (h : LL c (wLc2 w g t w1 g1 t1 te vs vs1) σ H Q) : tLc2 (LI c w) (LG c sl g) (LT c t) (LI c w1) (LG c sl1 g1) (LT c t1) (LE c te) vs vs1 σ H Q := by
  obtain ⟨F, S, R, rp, h, k⟩ := h
  refine ⟨F, S, _, rp, h, fun dep ds S1 J F1 H1 ⟨hlen, hdep, hsh, q⟩ n1 r1 wk lz => fun D hD => ?_⟩
  obtain ⟨Good, g1', g2, g3, g4⟩ := wk.ex
  have noD : ¬ Owned S1 σ D := own_ne r1 hD
  have hD0 := h0_none r1 hD
  have hDp := r1.nepr hD
  have hDH : Nn H D := Classical.byContradiction fun z => n1.dom D z (.none hD)
  refine ⟨fun i m Hh => m = ds.length - i ∧ i ≤ ds.length ∧ ∃ F' acc vacc, Rep c F' S1 σ Hh ∧ Nx c.pr S1 σ F1 H1 S1 F' Hh ∧ Hh D = some (.lst vacc) ∧ RvL c.pr F' acc vacc ∧ F' D = none ∧ acc.length ≤ i * 1000 ∧ lc2D (lc2Step g t w1 g1 t1 te vs vs1 (wipeS S1 vs)) (ds.drop i) (fun r => R (acc ++ r) S1), ⟨ds.length, by omega, by omega, F1, [], [], ?_⟩, ?_⟩
  · obtain ⟨nf, rf⟩ := r1.fresh (o := .lst []) hD
    exact ⟨rf, nf, upd_same, rfl, f_none r1 hD, Nat.zero_le _, q⟩
  · rintro i m Hh ⟨rfl, hi, F', acc, vacc, r', n', hDl, rl, hFD, hal, q⟩
    have gd := g1' F' Hh S1 σ n'.le r' (fun _ _ => ⟨rfl, rfl⟩)
    by_cases hlt : i < ds.length
    · refine .inr ⟨g2 i F' Hh hlt gd, fun Hx => ∃ F' acc vacc, Rep c F' S1 σ Hx ∧ Nx c.pr S1 σ F1 H1 S1 F' Hx ∧ Hx D = some (.lst vacc) ∧ RvL c.pr F' acc vacc ∧ F' D = none ∧ acc.length ≤ (i + 1) * 1000 ∧ lc2D (lc2Step g t w1 g1 t1 te vs vs1 (wipeS S1 vs)) (ds.drop (i + 1)) (fun r => R (acc ++ r) S1), fun Hx hn => ⟨ds.length - (i + 1), by omega, rfl, by omega, hn⟩, fun x H2 y => ?_⟩
      obtain ⟨F2, d, e, l2, gr, fz, rv⟩ := g4 i F' Hh x H2 hlt gd r'.fz (fun a h => r'.nepr h) y
      rw [drop_cons e] at q
      have r2 := r'.grow l2 gr fz
      have n2 := n'.trans (.grow (pr := c.pr) (S := S1) (σ := σ) l2 gr)
      have hD2 := l2 _ _ hDl
      have hF2 : F2 D = none := by
        cases e : F2 D with
        | none => rfl
        | some o =>
          rcases gr.new D (by rw [e]; simp) with z | z
          · exact absurd hFD z
          · exact absurd z (not_nn hDl lst_nt)
      have rl2 := RvL.mono gr.le _ _ rl
      refine ⟨F2, wipeS S1 vs, d, _, r2.wipe vs, rv, q, fun S2 σ2 r3 ag ln ⟨⟨hw, hs2⟩, q⟩ => ⟨?_, F2, S2, _, r3, q, fun b S3 F4 H4 ⟨e3, q⟩ n4 r4 => ?_⟩⟩
      · exact wipe_eq (by rw [ln, wipe_length]) fun j hj => ag j fun z => hj (hsl j z)
      · subst e3
        have hσ : ∀ j, j ∉ vs → σ2[j]? = σ[j]? := fun j hj => by rw [ag j fun z => hj (hsl j z), wipe_get hj]
        have gs : ∀ j, j ∉ vs → getS S3 j = getS S1 j := fun j hj => by rw [← getS_wipe (S := S3) hj, hw, getS_wipe hj]
        have noD2 : ¬ Owned S3 σ2 D := fun ⟨j, ho, e⟩ => by
          have hj := shared_not hs2 ho
          exact noD ⟨j, by rw [← gs j hj]; exact ho, by rw [← hσ j hj]; exact e⟩
        -- out of the block, from any state in which the outer level stands
        have out : ∀ {Fa Ha Fb Hb : Hp}, Rep c Fa S1 σ Ha → Nx c.pr S1 σ F1 H1 S1 Fa Ha → Ha D = some (.lst vacc) ∨ True → Nx c.pr S3 σ2 Fa Ha S3 Fb Hb → Rep c Fb S3 σ2 Hb → Rep c Fb S1 σ Hb ∧ Nx c.pr S1 σ F1 H1 S1 Fb Hb := fun {Fa Ha Fb Hb} ra na _ n5 r5 => by
          obtain ⟨rb, nb⟩ := ra.back n5 r5 hw hs2 hσ hsh
          exact ⟨rb, na.trans nb⟩
        have keepD : ∀ {Fa Ha Fb Hb : Hp} {va : List V}, Nx c.pr S3 σ2 Fa Ha S3 Fb Hb → Ha D = some (.lst va) → Fa D = none → Hb D = some (.lst va) ∧ Fb D = none := fun {Fa Ha Fb Hb va} n5 hda hfa => by
          refine ⟨n5.kp D _ hda hDp lst_nt noD2, ?_⟩
          cases e : Fb D with
          | none => rfl
          | some o =>
            rcases n5.new D (by rw [e]; simp) with z | z | z
            · exact absurd hfa z
            · exact absurd z (not_nn hda lst_nt)
            · exact absurd z noD2
        obtain ⟨a1, a2⟩ := out r2 n2 (.inr trivial) n4 r4
        obtain ⟨a3, a5⟩ := keepD n4 hD2 hF2
        have a4 := RvL.mono n4.le _ _ rl2
        cases b with
        | false =>
          refine iteF ⟨F4, acc, vacc, a1, a2, a3, a4, a5, by omega, ?_⟩
          have q' := ifF q
          simpa using q'
        | true =>
          refine iteT ⟨F4, S3, _, r4, ifT q, fun dep1 ds1 S5 J1 F5 H5 ⟨e5, hlen1, hdep1, hsh1, q1⟩ n5 r5 wk1 lz1 => ?_⟩
          subst e5
          obtain ⟨b1, b2⟩ := out a1 a2 (.inr trivial) n5 r5
          obtain ⟨b3, b5⟩ := keepD n5 a3 a5
          have b4 := RvL.mono n5.le _ _ a4
          obtain ⟨Good1, h1', h2, h3, h4⟩ := wk1.ex
          refine ⟨fun j m Hx => m = ds1.length - j ∧ j ≤ ds1.length ∧ ∃ F' done vacc, Rep c F' S1 σ Hx ∧ Rep c F' S5 σ2 Hx ∧ Le F5 F' ∧ Nx c.pr S1 σ F1 H1 S1 F' Hx ∧ Hx D = some (.lst vacc) ∧ RvL c.pr F' (acc ++ done) vacc ∧ F' D = none ∧ done.length ≤ j ∧ lcD (lcStep g1 t1 te vs1 (wipeS S5 vs1)) (ds1.drop j) (fun r => lc2D (lc2Step g t w1 g1 t1 te vs vs1 (wipeS S1 vs)) (ds.drop (i + 1)) (fun rs => R (acc ++ (done ++ r ++ rs)) S1)), ⟨ds1.length, by omega, by omega, F5, [], vacc, b1, r5, .refl _, b2, b3, by rw [List.append_nil]; exact b4, b5, Nat.zero_le _, by simpa using q1⟩, ?_⟩
          rintro j m Hx ⟨rfl, hj, F6, done, vac6, c1, c2, c3, c4, c5, c6, c7, c8, c9⟩
          have gd1 := h1' F6 Hx S5 σ2 c3 c2 (fun _ _ => ⟨rfl, rfl⟩)
          by_cases hlt1 : j < ds1.length
          · refine .inr ⟨h2 j F6 Hx hlt1 gd1, fun Hy => ∃ F' done vacc, Rep c F' S1 σ Hy ∧ Rep c F' S5 σ2 Hy ∧ Le F5 F' ∧ Nx c.pr S1 σ F1 H1 S1 F' Hy ∧ Hy D = some (.lst vacc) ∧ RvL c.pr F' (acc ++ done) vacc ∧ F' D = none ∧ done.length ≤ j + 1 ∧ lcD (lcStep g1 t1 te vs1 (wipeS S5 vs1)) (ds1.drop (j + 1)) (fun r => lc2D (lc2Step g t w1 g1 t1 te vs vs1 (wipeS S1 vs)) (ds.drop (i + 1)) (fun rs => R (acc ++ (done ++ r ++ rs)) S1)), fun Hy hn => ⟨ds1.length - (j + 1), by omega, rfl, by omega, hn⟩, fun x1 H7 y1 => ?_⟩
            obtain ⟨F7, d1, ed1, l7, gr7, fz7, rv7⟩ := h4 j F6 Hx x1 H7 hlt1 gd1 c2.fz (fun a h => c2.nepr h) y1
            rw [drop_cons ed1] at c9
            have s1 := c1.grow l7 gr7 fz7
            have s2 := c2.grow l7 gr7 fz7
            have s4 := c4.trans (.grow (pr := c.pr) (S := S1) (σ := σ) l7 gr7)
            have s5 := l7 _ _ c5
            have s7 : F7 D = none := by
              cases e : F7 D with
              | none => rfl
              | some o =>
                rcases gr7.new D (by rw [e]; simp) with z | z
                · exact absurd c7 z
                · exact absurd z (not_nn c5 lst_nt)
            have s6 := RvL.mono gr7.le _ _ c6
            refine ⟨F7, wipeS S5 vs1, d1, _, s2.wipe vs1, rv7, c9, fun S8 σ3 r8 ag8 ln8 ⟨⟨hw8, hs8⟩, q8⟩ => ⟨?_, F7, S8, _, r8, q8, fun b8 S9 F9 H9 ⟨e9, q9⟩ n9 r9 => ?_⟩⟩
            · exact wipe_eq (by rw [ln8, wipe_length]) fun j hj => ag8 j fun z => hj (hsl1 j z)
            · subst e9
              have hσ3 : ∀ j, j ∉ vs1 → σ3[j]? = σ2[j]? := fun j hj => by rw [ag8 j fun z => hj (hsl1 j z), wipe_get hj]
              have fin : ∀ {F0 H0 : Hp}, Nx c.pr S9 σ3 F7 H7 S9 F0 H0 → Rep c F0 S9 σ3 H0 → Rep c F0 S1 σ H0 ∧ Rep c F0 S5 σ2 H0 ∧ Nx c.pr S1 σ F1 H1 S1 F0 H0 ∧ H0 D = some (.lst vac6) ∧ RvL c.pr F0 (acc ++ done) vac6 ∧ F0 D = none := fun {F0 H0} n0 r0 => by
                obtain ⟨rb, nb⟩ := s2.back n0 r0 hw8 hs8 hσ3 hsh1
                obtain ⟨ro, no⟩ := out s1 s4 (.inr trivial) nb rb
                obtain ⟨kd, kf⟩ := keepD nb s5 s7
                exact ⟨ro, rb, no, kd, RvL.mono nb.le _ _ s6, kf⟩
              cases b8 with
              | false =>
                obtain ⟨t1, t2, t3, t4, t5, t6⟩ := fin n9 r9
                refine iteF ⟨F9, done, vac6, t1, t2, c3.trans (gr7.le.trans n9.le), t3, t4, t5, t6, by omega, ?_⟩
                have q' := ifF q9
                simpa using q'
              | true =>
                refine iteT ⟨F9, S9, _, r9, ifT q9, fun z S10 y10 F10 H10 ⟨e10, q10⟩ n10 r10 rz => ?_⟩
                subst e10
                obtain ⟨t1, t2, t3, t4, t5, t6⟩ := fin (n9.trans n10) r10
                refine ⟨vac6, t4, ?_, F10, done ++ [z], vac6 ++ [y10], t1.updFree t4 t6 hD0 hDp noD, t2.updFree t4 t6 hD0 hDp noD2, c3.trans (gr7.le.trans (n9.le.trans n10.le)), ?_, upd_same, ?_, t6, by rw [List.length_append]; simp; omega, ?_⟩
                · have e := t5.length
                  rw [List.length_append] at e
                  rw [sizeLine_eq]
                  have : i * 1000 ≤ 1000 * 1000 := Nat.mul_le_mul_right _ (by omega)
                  omega
                · refine ⟨t3.le, fun b o h nn tt ww => ?_, fun b hb => ?_, t3.new, t3.own⟩
                  · have : b ≠ D := fun z => by rw [z, hD] at h; cases h
                    rw [upd_ne this]; exact t3.kp b o h nn tt ww
                  · have : b ≠ D := fun z => by rw [z] at hb; exact hb (.none hD)
                    obtain ⟨u, e, tt⟩ := nn_ex (t3.dom b hb)
                    exact not_nn (by rw [upd_ne this]; exact e) tt
                · rw [← List.append_assoc]
                  exact t5.append (RvL.one rz)
                · simpa using q10
          · have ej : j = ds1.length := by omega
            subst ej
            rw [List.drop_length] at c9
            refine .inl ⟨h3 F6 Hx gd1, F6, acc ++ done, vac6, c1, c4, c5, c6, c7, by rw [List.length_append]; omega, ?_⟩
            have c9 : lc2D (lc2Step g t w1 g1 t1 te vs vs1 (wipeS S1 vs)) (ds.drop (i + 1)) (fun rs => R (acc ++ (done ++ [] ++ rs)) S1) := c9
            simpa using c9
    · have e : i = ds.length := by omega
      subst e
      rw [List.drop_length] at q
      have q' : R (acc ++ []) S1 := q
      rw [List.append_nil] at q'
      exact .inl ⟨g3 F' Hh gd, k acc S1 D F' Hh q' (n1.trans n') r' ⟨vacc, hDl, rl, hFD, hDH, hD0, hDp, noD⟩⟩
theorem dl_lc2 {elt iter iter1 : Expr} {ifs ifs1 : List Expr} {scope : Scope} {own : List (Str × Nat)} {vs1 : List Nat} {w w1 : WI} {g g1 : WG} {t t1 : WTs} {te : WE} {sl sl1 : List Nat} (B : Ctx X c EX k) (hi : DI X c tg iter w) (ok : BlkOk X.N X.env.scope scope own)
    (hg : ∀ (s : Shared) (H : Hp) (C : Addr) (cl : List (Str × Addr)) (fp : List Addr), DG (X.blk s H scope (compEnvC scope cl C X.env) fp) c sl tg g) (ht : ∀ (s : Shared) (H : Hp) (C : Addr) (cl : List (Str × Addr)) (fp : List Addr), DTs (X.blk s H scope (compEnvC scope cl C X.env) fp) c ifs t)
    (hi1 : ∀ (s : Shared) (H : Hp) (C : Addr) (cl : List (Str × Addr)) (fp : List Addr), DI (X.blk s H scope (compEnvC scope cl C X.env) fp) c tg1 iter1 w1)
    (hg1 : ∀ (s : Shared) (H : Hp) (C : Addr) (cl : List (Str × Addr)) (fp : List Addr), DG (X.blk s H scope (compEnvC scope cl C X.env) fp) c sl1 tg1 g1) (ht1 : ∀ (s : Shared) (H : Hp) (C : Addr) (cl : List (Str × Addr)) (fp : List Addr), DTs (X.blk s H scope (compEnvC scope cl C X.env) fp) c ifs1 t1)
    (he : ∀ (s : Shared) (H : Hp) (C : Addr) (cl : List (Str × Addr)) (fp : List Addr), DE (X.blk s H scope (compEnvC scope cl C X.env) fp) c elt te) (hv : ∀ i ∈ vs1, i ∈ own.map (·.2) := by decide) (hsl : ∀ j ∈ sl, j ∈ own.map (·.2) := by decide) (hsl1 : ∀ j ∈ sl1, j ∈ vs1 := by decide) (hs : ∀ x, foldedSetIterable iter X.env x = pure x := by intro _; rfl) (hs1 : ∀ env x, foldedSetIterable iter1 env x = pure x := by intro _ _; rfl) :
    DFr X c (.ListComp elt [⟨tg, iter, ifs, 0⟩, ⟨tg1, iter1, ifs1, 0⟩] scope pos) (wLc2 w g t w1 g1 t1 te (own.map (·.2)) vs1) := (pe_lc2 B.calm B.nd hi ok hv hg ht hi1 hg1 ht1 he hs hs1).imp fun _ _ _ => lc2_lift hsl hsl1
theorem s_setLc2 {i : Nat} {y : Str} {py spos : Pos} {elt iter iter1 : Expr} {ifs ifs1 : List Expr} {scope : Scope} {own : List (Str × Nat)} {vs1 : List Nat} {w w1 : WI} {g g1 : WG} {t t1 : WTs} {te : WE} {sl sl1 : List Nat} (n : Bool) (B : Ctx X c EX k) (hy : X.N[i]? = some y) (hyl : X.env.scope.names.lookup y = some .local)
    (hsw : swapsWith (.ListComp elt [⟨tg, iter, ifs, 0⟩, ⟨tg1, iter1, ifs1, 0⟩] scope pos) (some (.Name y py)) spos.line X.env = pure true) (hi : DI X c tg iter w) (ok : BlkOk X.N X.env.scope scope own)
    (hg : ∀ (s : Shared) (H : Hp) (C : Addr) (cl : List (Str × Addr)) (fp : List Addr), DG (X.blk s H scope (compEnvC scope cl C X.env) fp) c sl tg g) (ht : ∀ (s : Shared) (H : Hp) (C : Addr) (cl : List (Str × Addr)) (fp : List Addr), DTs (X.blk s H scope (compEnvC scope cl C X.env) fp) c ifs t)
    (hi1 : ∀ (s : Shared) (H : Hp) (C : Addr) (cl : List (Str × Addr)) (fp : List Addr), DI (X.blk s H scope (compEnvC scope cl C X.env) fp) c tg1 iter1 w1)
    (hg1 : ∀ (s : Shared) (H : Hp) (C : Addr) (cl : List (Str × Addr)) (fp : List Addr), DG (X.blk s H scope (compEnvC scope cl C X.env) fp) c sl1 tg1 g1) (ht1 : ∀ (s : Shared) (H : Hp) (C : Addr) (cl : List (Str × Addr)) (fp : List Addr), DTs (X.blk s H scope (compEnvC scope cl C X.env) fp) c ifs1 t1)
    (he : ∀ (s : Shared) (H : Hp) (C : Addr) (cl : List (Str × Addr)) (fp : List Addr), DE (X.blk s H scope (compEnvC scope cl C X.env) fp) c elt te) (hv : ∀ i ∈ vs1, i ∈ own.map (·.2) := by decide) (hsl : ∀ j ∈ sl, j ∈ own.map (·.2) := by decide) (hsl1 : ∀ j ∈ sl1, j ∈ vs1 := by decide) (hs : ∀ x, foldedSetIterable iter X.env x = pure x := by intro _; rfl) (hs1 : ∀ env x, foldedSetIterable iter1 env x = pure x := by intro _ _; rfl) :
    DSt X c (.Assign [.Name y py] (.ListComp elt [⟨tg, iter, ifs, 0⟩, ⟨tg1, iter1, ifs1, 0⟩] scope pos) spos) (sSet i (if n = true then wNo (wLc2 w g t w1 g1 t1 te (own.map (·.2)) vs1) else wNd (wFz (wLc2 w g t w1 g1 t1 te (own.map (·.2)) vs1)))) := (ps_setLc2 B.calm B.nd hy hyl hsw hi ok hv hg ht hi1 hg1 ht1 he hs hs1).imp fun D σ H h => by
  obtain ⟨F, S, E, r, h, k⟩ := h
  refine lc2_lift (c := c) hsl hsl1 (Q := fun x H1 => gName i x σ H1 D.nx) ?_
  cases n with
  | true =>
    refine ⟨F, S, _, r, h, fun ds S1 p F1 H1 q n1 r1 nl => ?_⟩
    obtain ⟨vs, h1, rl, n2, n3, n4, n5, n6⟩ := nl
    exact k.nx F1 _ _ H1 n1.le (r1.setN (x := .own ds) (H0 := H) ⟨⟨p, vs, rfl, h1, rl, n2, n4, n5⟩, fun p' e => by cases e; exact ⟨n3, n6⟩⟩) q
  | false =>
    refine ⟨F, S, _, r, h, fun ds S1 p F1 H1 q n1 r1 nl => ?_⟩
    obtain ⟨F2, n2, r2, rv⟩ := r1.shareF n1 nl
    exact k.nx F2 _ _ H1 n2.le (r2.setN (x := .dat (.lst ds)) (H0 := H) ⟨⟨_, rfl, rv⟩, trivial⟩) q
end
end DL

set_option Elab.async false
set_option linter.all false
set_option maxRecDepth 100000
set_option maxHeartbeats 4000000
/-! enumerate and zip over lists and tuples, in any mixture. -/
namespace DL
open PySem PySem.Spec PyProof.Rows L2
open AutoSeq1 (wpAny_loadPart')
/-- a list (true) or a tuple (false) -/
def SqK : Bool → PySem.W.Frag → Hp → Addr → List V → Prop
  | true, K, H, a, xs => SqL K H a xs
  | false, K, H, a, xs => SqT K H a xs
def ItKs : Bool → Heap → Addr → Addr → Nat → Prop
  | true, h, it, a, i => h.IsListIter it a i
  | false, h, it, a, i => h.IsTupleIter it a i
def SeK : Bool → Heap → Addr → Array Value → Prop
  | true, h, a, its => h.IsList a its
  | false, h, a, its => h.IsTuple a its
def objK : Bool → Addr → Obj
  | true, a => { cls := .type "list_iterator", data := .fields #[.ref a, .int 0 0] }
  | false, a => { cls := .type "tuple_iterator", data := .fields #[.ref a, .int 0 0] }
theorem inv_seqK {X : Cx} {pins : List (Addr × Obj)} {σ : L2.St} {H : Hp} {s : Shared} {k : Bool} {a : Addr} {xs : List V} (I : Inv X pins σ H s) (h : SqK k X.K H a xs) : ∃ its : List Value, Vals xs its ∧ SeK k s.heap a its.toArray ∧ xs.length ≤ sizeLine := by
  cases k with
  | true =>
    obtain ⟨its, rv, p, z⟩ := I.list h
    exact ⟨its, rv, p.isList, z⟩
  | false =>
    obtain ⟨its, rv, p, z⟩ := I.tuple h
    exact ⟨its, rv, p, z⟩
theorem inj_seqK {X : Cx} {pins : List (Addr × Obj)} {σ : L2.St} {H : Hp} {s : Shared} {k : Bool} {a : Addr} {xs ys : List V} (I : Inv X pins σ H s) (h : SqK k X.K H a xs) (h' : SqK k X.K H a ys) : xs = ys := by
  cases k with
  | true => exact I.list_inj h h'
  | false => exact I.tuple_inj h h'
theorem seK_lt {k : Bool} {h : Heap} {a : Addr} {its : Array Value} (e : SeK k h a its) : a < h.objs.size := by
  cases k with
  | true =>
    obtain ⟨o, ho, _⟩ := e
    exact Heap.lt_size ho
  | false =>
    obtain ⟨o, ho, _⟩ := e
    exact Heap.lt_size ho
theorem itK_at {k : Bool} {h h' : Heap} {it a : Addr} {i : Nat} (e : ItKs k h it a i) (z : ∀ o, h.get? it = some o → h'.get? it = some o) : ItKs k h' it a i := by
  cases k with
  | true => exact Heap.IsListIter.at e z
  | false => exact Heap.IsTupleIter.at e z
theorem itK_obj {k : Bool} {h : Heap} {it a : Addr} {i : Nat} (e : ItKs k h it a i) : ∃ o, h.get? it = some o ∧ ∀ v, o.data ≠ .cell v := by
  cases k with
  | true =>
    obtain ⟨o, e1, _, d1⟩ := e
    exact ⟨o, e1, fun v q => by rw [d1] at q; cases q⟩
  | false =>
    obtain ⟨o, e1, _, d1⟩ := e
    exact ⟨o, e1, fun v q => by rw [d1] at q; cases q⟩
theorem itK_new {k : Bool} {h : Heap} {it a : Addr} (e : h.get? it = some (objK k a)) : ItKs k h it a 0 := by
  cases k <;> exact ⟨_, e, rfl, rfl⟩
theorem drawsK {prog : Program} {w : World} {A : Around} (k : Bool) (hh : A.handled = none) (it a : Addr) (hne : a ≠ it) (items : Array Value) :
    Draws prog w A it [it, a] items.size (fun i v => items[i]? = some v) (fun i h => ItKs k h it a i ∧ SeK k h a items) := by
  cases k with
  | true => exact Draws.list hh it a hne items
  | false => exact Draws.tuple hh it a hne items
theorem beginsK (k : Bool) (a : Addr) (items : Array Value) : Begins (.ref a) (objK k a) fun h => SeK k h a items := by
  cases k with
  | true => exact begins_list a items
  | false => exact begins_tuple a items
/-! ### enumerate -/
set_option maxHeartbeats 1000000 in
theorem meets_enum1 {v : Value} {o : Obj} {H : Heap → Prop} (B : Begins v o H) :
    Meets (Builtin.«enumerate.__new__» ⟨[.type "enumerate", v], []⟩) (fun _ R s => H s.heap ∧
      R (.ok (.ret (.ref (s.heap.push o).objs.size))) { s with heap := (s.heap.push o).push { cls := .type "enumerate", data := .fields #[.none, .bool false, .ref s.heap.objs.size, rawInt 0, .none, .none] } }) :=
  .of_wp fun prog w A R s h => by
    obtain ⟨hp, g, d, tk, os⟩ := s
    obtain ⟨h1, h⟩ := h
    have hsub := sub_enumerate
    have q1 : ∀ {A' : Around} {E : Value → Shared → Prop} {Q : Value → Shared → Prop}, Q (.ref hp.objs.size) ⟨hp.push o, g, d, tk, os⟩ → wpAny (model prog w) A' (pyIter v) Q E ⟨hp, g, d, tk, os⟩ :=
      fun q => B.iter prog w _ _ ⟨hp, g, d, tk, os⟩ _ h1 q
    wp_walk using q1
    refine wpAny_stack_any fun st => wpAny_pure ?_
    split
    · rename_i c _ _ _ _ _
      cases (c == Value.type "enumerate")
      · wp_walk using q1
        exact ⟨_, rfl, h⟩
      · wp_walk using q1
        exact ⟨_, rfl, h⟩
    · wp_walk using q1
      exact ⟨_, rfl, h⟩
theorem enum1_begins {prog : Program} {w : World} {A : Around} {E : Value → Shared → Prop} {s : Shared} {v : Value} {o : Obj} {H : Heap → Prop} {Q : Value → Shared → Prop} (B : Begins v o H) (h1 : H s.heap)
    (h : ∀ h', IsEnum h' (s.heap.objs.size + 1) s.heap.objs.size 0 .none → h'.get? s.heap.objs.size = some o → h'.objs.size = s.heap.objs.size + 2 →
      (∀ b o, s.heap.get? b = some o → h'.get? b = some o) → Q (.ref (s.heap.objs.size + 1)) { s with heap := h' }) :
    wpAny (model prog w) A (call (.type "enumerate") [v]) Q E s := by
  refine callType_new F.called_enumerate (by decide) (F.typeCall_enumerate_1 _) (F.newCall_enumerate_1 _) (fun obj => F.args_object_init_2 obj _) F.entry_enumerate_new
    (meets_enum1 B) ⟨h1, ?_⟩
  have hz : (s.heap.push o).objs.size = s.heap.objs.size + 1 := Heap.size_push ..
  show _ ∧ _
  rw [hz]
  have he : IsEnum ((s.heap.push o).push { cls := .type "enumerate", data := .fields #[.none, .bool false, .ref s.heap.objs.size, rawInt 0, .none, .none] }) (s.heap.objs.size + 1) s.heap.objs.size 0 .none := by
    have := Heap.get?_push_size (s.heap.push o) (o := { cls := .type "enumerate", data := .fields #[.none, .bool false, .ref s.heap.objs.size, rawInt 0, .none, .none] }) rfl
    rw [hz] at this; exact this
  exact ⟨⟨_, he, rfl⟩, h _ he (Heap.get?_push_of_some _ (Heap.get?_push_size _ B.free)) (by rw [Heap.size_push, hz]) fun b o x => Heap.get?_push_of_some _ (Heap.get?_push_of_some _ x)⟩
def IteK (k : Bool) (K : PySem.W.Frag) (a : Addr) : It :=
  ⟨fun i H => ∃ (xs : List V) (x : V), SqK k K H a xs ∧ xs[i]? = some x, fun i H v H' => ∃ T x, v = .ref T ∧ H T = none ∧ H' = upd H T (.tup [.int (i : Nat), x]) ∧ ∀ xs, SqK k K H a xs → xs[i]? = some x, fun i H => ∃ xs : List V, SqK k K H a xs ∧ xs.length = i⟩
theorem turn_enumK {P : Program} {w : World} {K : PySem.W.Frag} {elts : List Expr} {kk : Nat} {tpos : Pos} (k : Bool) (a e it : Addr) (hae : a ≠ e) (hai : a ≠ it) :
    Turn P w K (.Tuple elts kk tpos) (IteK k K a) [e, it] e (fun i h => (∃ old, IsEnum h e it ((i : Nat) : Int) old) ∧ ItKs k h it a i ∧ e ≠ it) where
  mem := by simp
  obj := fun i h st b hb => by
    obtain ⟨⟨old, he⟩, ho, _⟩ := st
    have e' : b = e ∨ b = it := by simpa using hb
    rcases e' with z | z
    · rw [z]; exact ⟨_, he, fun v q => nomatch q⟩
    · rw [z]; exact itK_obj ho
  keep := fun i h h' st q => let ⟨⟨old, he⟩, hi, hne⟩ := st; ⟨⟨old, q e (by simp) _ he⟩, itK_at hi fun o z => q it (by simp) o z, hne⟩
  item := by
    intro X hP hw hK hc i pins s σ H E I hf st hg
    subst hP hw hK
    obtain ⟨⟨old, he⟩, hit, hne⟩ := st
    obtain ⟨xs, x, hq, hx⟩ := hg
    obtain ⟨its, rv, p, hz⟩ := inv_seqK I hq
    obtain ⟨u, hu, ru⟩ := rv.get hx
    have hel : e < s.heap.objs.size := Heap.lt_size he
    have hil : it < s.heap.objs.size := by
      obtain ⟨_, q, _⟩ := itK_obj hit
      exact Heap.lt_size q
    have hlt : i < its.toArray.size := by
      have := (List.getElem?_eq_some_iff.mp hu).1
      simpa using this
    refine wpAny_pyNext_enum_itemC (drawsK k (A := X.A.in1) (show X.A.in1.handled = none from I.ok.hd hc) it a hai its.toArray) he ⟨hit, p⟩ hlt hne (by simp; exact ⟨hne, fun z => hae z.symm⟩) fun y h' tk hy ho hit' hT hsz hk => ?_
    have ey : y = u := by
      rw [List.getElem?_toArray, hu] at hy
      exact (Option.some.inj hy).symm
    subst ey
    refine ⟨_, rfl, wpAny_letOwnedTupleGo_enum (s := { s with heap := h', toks := tk + 1 }) ho fun h'' he' sb => ?_⟩
    have hT2 : h''.get? s.heap.objs.size = some { cls := .type "tuple", data := .seq #[.int i tk, y] } := (sb.2 _ (Nat.ne_of_gt hel)).trans hT
    have new : ObjOk X.prog X.w (upd H s.heap.objs.size (.tup [.int (i : Nat), x])) h'' s.heap.objs.size (.tup [.int (i : Nat), x]) :=
      ⟨by show 2 ≤ sizeLine; decide, [.int i tk, y], .cons ⟨_, rfl⟩ (.cons ru .nil), ⟨_, hT2, rfl, _, rfl⟩⟩
    have I1 : Inv X pins σ (upd H s.heap.objs.size (.tup [.int (i : Nat), x])) { s with heap := h'', toks := tk + 1 } :=
      I.turnedNew (t' := tk + 1) (ch := [e, it]) (fun b ob hb q => (sb.2 b (fun z => hb (by simp [z]))).trans (hk b ob (fun z => hb (by simp [z])) (fun z => hb (by simp [z])) q)) hf (Nat.le_refl _) new
    refine ⟨.ref s.heap.objs.size, _, I1, rfl, ⟨_, x, rfl, I.hok.fresh (Nat.le_refl _), rfl, fun ys hy => by rw [inj_seqK I hy hq]; exact hx⟩, ⟨⟨y, ?_⟩, itK_at hit'.1 fun o q => (sb.2 it (Ne.symm hne)).trans q, hne⟩, fun b hb => ?_⟩
    · have e1 : ((i + 1 : Nat) : Int) = (i : Int) + 1 := by omega
      rw [e1]; exact he'
    · have hb' : b < s.heap.objs.size := by
        have e' : b = e ∨ b = it := by simpa using hb
        rcases e' with z | z
        · rw [z]; exact hel
        · rw [z]; exact hil
      rw [upd_ne (Nat.ne_of_lt hb')]
      exact (hf b hb).1
  done := by
    intro X hP hw hK hc i pins s σ H E I hf st hg
    subst hP hw hK
    obtain ⟨⟨old, he⟩, hit, hne⟩ := st
    obtain ⟨xs, hq, hx⟩ := hg
    obtain ⟨its, rv, p, hz⟩ := inv_seqK I hq
    have hl := rv.length
    have e1 : its.toArray.size = i := by simp; omega
    obtain ⟨f0, f1, f2, f3, f4, f5⟩ := hf it (by simp)
    exact wpAny_pyNext_enum_endD (n := its.toArray.size) (drawsK k (A := X.A.in1) (show X.A.in1.handled = none from I.ok.hd hc) it a hai its.toArray) he ⟨by rw [e1]; exact hit, p⟩ fun h' eb => ⟨rfl, I.turned (t' := s.toks) (fun b o hb q => eb b o hb q) f0 f1 f3 f4 f5⟩
  self := fun A i s Q E st h => let ⟨⟨_, he⟩, _⟩ := st; wpAny_pyIter_enum he h
def iEnumK (K : PySem.W.Frag) (ta : TA) : TI := fun σ H R => ta σ H fun vs H1 => ∃ k a xs, vs = [.ref a] ∧ SqK k K H1 a xs ∧ (xs.length ≤ sizeLine → R (IteK k K a) H1)
theorem pi_enumK {X : Cx} {e : Expr} {ta : TA} {p pos tpos : Pos} {elts : List Expr} {kk : Nat} (hg : Gl X "enumerate") (hm : X.mg "enumerate" = none) (ha : PA X [e] ta) (hs : starEach [e] X.env = [(false, eval e X.env)] := by rfl) :
    PI X (.Tuple elts kk tpos) (.Call (.Name "enumerate" p) [e] [] pos) (iEnumK X.K ta) := by
  refine ⟨fun pins s σ H R I h => ?_⟩
  refine Call_ (ld_blt I hg hm boot_enumerate (PyProof.Rows.callWith_type1 (thn (ha.run pos pins s σ H _ I h) fun us s1 ⟨vs, H1, I1, r1, q1⟩ => ?_) hs rfl))
  obtain ⟨k, a, xs, ex, hq, q⟩ := q1
  subst ex
  cases r1 with
  | cons r rr =>
    cases rr
    cases r
    obtain ⟨its, rv, p', hz⟩ := inv_seqK I1 hq
    have al := seK_lt p'
    refine enum1_begins (beginsK k a its.toArray) p' fun h' he hit hsz hk => wpAny_pyIter_enum he ?_
    have I2 : Inv X pins σ H1 { s1 with heap := h' } := I1.kept (t' := s1.toks) hk
    refine ⟨s1.heap.objs.size + 1, [s1.heap.objs.size + 1, s1.heap.objs.size], _, _, H1, rfl, I2, turn_enumK k a (s1.heap.objs.size + 1) s1.heap.objs.size (Nat.ne_of_lt (Nat.lt_succ_of_lt al)) (Nat.ne_of_lt al), ⟨⟨.none, he⟩, itK_new hit, Nat.succ_ne_self _⟩, fun b hb => ?_, q hz⟩
    have e' : b = s1.heap.objs.size + 1 ∨ b = s1.heap.objs.size := by simpa using hb
    have hle : s1.heap.objs.size ≤ b := by
      rcases e' with z | z
      · rw [z]; exact Nat.le_add_right _ _
      · rw [z]; exact Nat.le_refl _
    exact I1.fpOk hle (I1.hok.fresh hle)
/-! ### zip -/
def ItzK (k1 k2 : Bool) (K : PySem.W.Frag) (a b : Addr) : It :=
  ⟨fun i H => ∃ (xs ys : List V) (x y : V), SqK k1 K H a xs ∧ SqK k2 K H b ys ∧ xs[i]? = some x ∧ ys[i]? = some y,
    fun i H v H' => ∃ T x y, v = .ref T ∧ H T = none ∧ H' = upd H T (.tup [x, y]) ∧ (∀ xs, SqK k1 K H a xs → xs[i]? = some x) ∧ ∀ ys, SqK k2 K H b ys → ys[i]? = some y,
    fun i H => ∃ xs ys : List V, SqK k1 K H a xs ∧ SqK k2 K H b ys ∧ i ≤ xs.length ∧ i ≤ ys.length ∧ (i = xs.length ∨ i = ys.length)⟩
theorem turn_zipK {P : Program} {w : World} {K : PySem.W.Frag} {elts : List Expr} {kk : Nat} {tpos : Pos} {a b z TI TO i1 i2 : Addr} (k1 k2 : Bool) (D : ZipSep2 z TI TO i1 i2 [i1, a] [i2, b]) (n1 : a ≠ i1) (n2 : b ≠ i2) :
    Turn P w K (.Tuple elts kk tpos) (ItzK k1 k2 K a b) [z, TI, TO, i1, i2] z (fun i h => IsZip h z TI TO .none ∧ IsTupOf2 h TI (.ref i1) (.ref i2) ∧ (∃ x y, IsTupOf2 h TO x y) ∧ ItKs k1 h i1 a i ∧ ItKs k2 h i2 b i) where
  mem := by simp
  obj := fun i h st c hc => by
    obtain ⟨hz, hTI, ⟨x, y, hTO⟩, h1, h2⟩ := st
    have e' : c = z ∨ c = TI ∨ c = TO ∨ c = i1 ∨ c = i2 := by simpa using hc
    rcases e' with q | q | q | q | q
    · rw [q]; exact ⟨_, hz, fun v q => nomatch q⟩
    · rw [q]; exact ⟨_, hTI, fun v q => nomatch q⟩
    · rw [q]; exact ⟨_, hTO, fun v q => nomatch q⟩
    · rw [q]; exact itK_obj h1
    · rw [q]; exact itK_obj h2
  keep := fun i h h' st k => by
    obtain ⟨hz, hTI, ⟨x, y, hTO⟩, h1, h2⟩ := st
    exact ⟨k z (by simp) _ hz, k TI (by simp) _ hTI, ⟨x, y, k TO (by simp) _ hTO⟩, itK_at h1 fun o q => k i1 (by simp) o q, itK_at h2 fun o q => k i2 (by simp) o q⟩
  item := by
    intro X hP hw hK hc i pins s σ H E I hf st hg
    subst hP hw hK
    obtain ⟨hz, hTI, ⟨x0, y0, hTO⟩, h1, h2⟩ := st
    obtain ⟨xs, ys, x, y, hqx, hqy, hx, hy⟩ := hg
    obtain ⟨its, rv, p, _⟩ := inv_seqK I hqx
    obtain ⟨its2, rv2, p2, _⟩ := inv_seqK I hqy
    obtain ⟨u, hu, ru⟩ := rv.get hx
    obtain ⟨u2, hu2, ru2⟩ := rv2.get hy
    have hzl : z < s.heap.objs.size := Heap.lt_size hz
    have l1 : i < its.toArray.size := by
      have := (List.getElem?_eq_some_iff.mp hu).1
      simpa using this
    have l2 : i < its2.toArray.size := by
      have := (List.getElem?_eq_some_iff.mp hu2).1
      simpa using this
    refine wpAny_pyNext_zipD2_item D (drawsK k1 (A := X.A.in1) (show X.A.in1.handled = none from I.ok.hd hc) i1 a n1 its.toArray) (drawsK k2 (A := X.A.in1) (show X.A.in1.handled = none from I.ok.hd hc) i2 b n2 its2.toArray) hz hTI hTO ⟨h1, p⟩ ⟨h2, p2⟩ l1 l2 fun v1 v2 h' tk e1 e2 z' TO' h1' h2' hT hsz hk => ?_
    have ev1 : v1 = u := by
      rw [List.getElem?_toArray, hu] at e1
      exact (Option.some.inj e1).symm
    have ev2 : v2 = u2 := by
      rw [List.getElem?_toArray, hu2] at e2
      exact (Option.some.inj e2).symm
    subst ev1 ev2
    refine ⟨_, rfl, wpAny_letOwnedTupleGo_zip (s := { s with heap := h', toks := tk }) z' fun h'' z'' sb => ?_⟩
    have hT2 : h''.get? s.heap.objs.size = some { cls := .type "tuple", data := .seq #[v1, v2] } := (sb.2 _ (Nat.ne_of_gt hzl)).trans hT
    have new : ObjOk X.prog X.w (upd H s.heap.objs.size (.tup [x, y])) h'' s.heap.objs.size (.tup [x, y]) :=
      ⟨by show 2 ≤ sizeLine; decide, [v1, v2], .cons ru (.cons ru2 .nil), ⟨_, hT2, rfl, _, rfl⟩⟩
    have I1 : Inv X pins σ (upd H s.heap.objs.size (.tup [x, y])) { s with heap := h'', toks := tk } :=
      I.turnedNew (t' := tk) (ch := [z, TI, TO, i1, i2]) (fun c o hb q => (sb.2 c (fun q' => hb (by simp [q']))).trans (hk c o (fun q' => hb (by simp [q'])) (fun q' => hb (by simp [q'])) (fun q' => hb (by simp [q'])) (fun q' => hb (by simp [q'])) q)) hf (Nat.le_refl _) new
    have ne1 : i1 ≠ z := fun e => D.zf1 (by simp [e])
    have ne2 : i2 ≠ z := fun e => D.zf2 (by simp [e])
    refine ⟨.ref s.heap.objs.size, _, I1, rfl, ⟨_, x, y, rfl, I.hok.fresh (Nat.le_refl _), rfl, fun l hl => by rw [inj_seqK I hl hqx]; exact hx, fun l hl => by rw [inj_seqK I hl hqy]; exact hy⟩, ⟨z'', ?_, ⟨v1, v2, ?_⟩, ?_, ?_⟩, fun c hcm => ?_⟩
    · exact (sb.2 _ D.TIz).trans (hk _ _ D.TIz D.TITO D.TIi1 D.TIi2 hTI)
    · exact (sb.2 _ D.TOz).trans TO'
    · exact itK_at h1'.1 fun o q => (sb.2 _ ne1).trans q
    · exact itK_at h2'.1 fun o q => (sb.2 _ ne2).trans q
    · have hlt : c < s.heap.objs.size := by
        have e' : c = z ∨ c = TI ∨ c = TO ∨ c = i1 ∨ c = i2 := by simpa using hcm
        rcases e' with q | q | q | q | q
        · rw [q]; exact hzl
        · rw [q]; exact Heap.lt_size hTI
        · rw [q]; exact Heap.lt_size hTO
        · rw [q]; obtain ⟨_, e1, _⟩ := itK_obj h1; exact Heap.lt_size e1
        · rw [q]; obtain ⟨_, e1, _⟩ := itK_obj h2; exact Heap.lt_size e1
      rw [upd_ne (Nat.ne_of_lt hlt)]
      exact (hf c hcm).1
  done := by
    intro X hP hw hK hc i pins s σ H E I hf st hg
    subst hP hw hK
    obtain ⟨hz, hTI, ⟨x0, y0, hTO⟩, h1, h2⟩ := st
    obtain ⟨xs, ys, hqx, hqy, le1, le2, hend⟩ := hg
    obtain ⟨its, rv, p, _⟩ := inv_seqK I hqx
    obtain ⟨its2, rv2, p2, _⟩ := inv_seqK I hqy
    have l1 := rv.length
    have l2 := rv2.length
    have s1 : its.toArray.size = its.length := by simp
    have s2 : its2.toArray.size = its2.length := by simp
    exact wpAny_pyNext_zipD2_end D (drawsK k1 (A := X.A.in1) (show X.A.in1.handled = none from I.ok.hd hc) i1 a n1 its.toArray) (drawsK k2 (A := X.A.in1) (show X.A.in1.handled = none from I.ok.hd hc) i2 b n2 its2.toArray) hz hTI hTO ⟨h1, p⟩ ⟨h2, p2⟩ (by omega) (by omega) (by omega) fun h' tk hk => ⟨rfl, I.turnedL (t' := tk) (ch := [z, TI, TO, i1, i2]) (fun c o hb q =>
      hk c o (fun q' => hb (by simp [q'])) (fun q' => hb (by simp [q'])) (fun q' => hb (by simp [q'])) (fun q' => hb (by simp [q'])) q) hf⟩
  self := fun A i s Q E st h => wpAny_pyIter_zip st.1 h
def iZipK (K : PySem.W.Frag) (ta : TA) : TI := fun σ H R => ta σ H fun vs H1 => ∃ k1 k2 a b xs ys, vs = [.ref a, .ref b] ∧ SqK k1 K H1 a xs ∧ SqK k2 K H1 b ys ∧ (xs.length ≤ sizeLine → ys.length ≤ sizeLine → R (ItzK k1 k2 K a b) H1)
theorem pi_zipK {X : Cx} {e e2 : Expr} {ta : TA} {p pos tpos : Pos} {elts : List Expr} {kk : Nat} (hg : Gl X "zip") (hm : X.mg "zip" = none) (ha : PA X [e, e2] ta)
    (hs : starEach [e, e2] X.env = (false, eval e X.env) :: starEach [e2] X.env := by rfl) (hpl : (backTo pos (starEach [e2] X.env)).any (·.1) = false := by rfl) :
    PI X (.Tuple elts kk tpos) (.Call (.Name "zip" p) [e, e2] [] pos) (iZipK X.K ta) := by
  refine ⟨fun pins s σ H R I h => ?_⟩
  refine Call_ (ld_blt I hg hm PyProof.Rows.boot_zip (PyProof.Rows.callWith_type1 (thn (ha.run pos pins s σ H _ I h) fun us s1 ⟨vs, H1, I1, r1, q1⟩ => ?_) hs hpl))
  obtain ⟨k1, k2, a, b, xs, ys, ex, hqx, hqy, q⟩ := q1
  subst ex
  cases r1 with
  | cons r rr =>
    cases rr with
    | cons r' rr =>
      cases rr
      cases r
      cases r'
      obtain ⟨its, rv, p1, z1⟩ := inv_seqK I1 hqx
      obtain ⟨its2, rv2, p2, z2⟩ := inv_seqK I1 hqy
      have la := seK_lt p1
      have lb := seK_lt p2
      refine zip_begins2 (beginsK k1 a its.toArray) (beginsK k2 b its2.toArray) p1 p2 fun h' hz hTI hTO h1 h2 hsz hk => wpAny_pyIter_zip hz ?_
      have I2 : Inv X pins σ H1 { s1 with heap := h' } := I1.kept (t' := s1.toks) hk
      refine ⟨s1.heap.objs.size + 4, [s1.heap.objs.size + 4, s1.heap.objs.size + 2, s1.heap.objs.size + 3, s1.heap.objs.size, s1.heap.objs.size + 1], _, _, H1, rfl, I2, turn_zipK k1 k2 (zip_sep2 (fp1 := [a]) (fp2 := [b]) (by simpa using la) (by simpa using lb)) (Nat.ne_of_lt la) (Nat.ne_of_lt (Nat.lt_succ_of_lt lb)), ⟨hz, hTI, ⟨_, _, hTO⟩, itK_new h1, itK_new h2⟩, fun c hcm => ?_, q z1 z2⟩
      have e' : c = s1.heap.objs.size + 4 ∨ c = s1.heap.objs.size + 2 ∨ c = s1.heap.objs.size + 3 ∨ c = s1.heap.objs.size ∨ c = s1.heap.objs.size + 1 := by simpa using hcm
      have hle : s1.heap.objs.size ≤ c := by
        rcases e' with z | z | z | z | z
        · rw [z]; exact Nat.le_add_right _ _
        · rw [z]; exact Nat.le_add_right _ _
        · rw [z]; exact Nat.le_add_right _ _
        · rw [z]; exact Nat.le_refl _
        · rw [z]; exact Nat.le_add_right _ _
      exact I1.fpOk hle (I1.hok.fresh hle)
end DL

set_option Elab.async false
set_option linter.all false
set_option maxRecDepth 100000
set_option maxHeartbeats 4000000
/-! enumerate and zip at the data level. -/
namespace DL
open PySem PySem.Spec PyProof.Rows L2
section
variable {X : Cx} {c : Cd} {EX : Str → Prop} {k : Nat} {tg a b e : Expr} {es : List Expr} {pos : Pos}
theorem src_seq {K : PySem.W.Frag} {F1 H1 : Hp} {S1 : Sl} {σ : Sg} {x : Src} {v : V} {d : D} {kx : List D → Prop} (rx : SrcR c.pr F1 σ x v) (ok : SrcIs S1 x d) (r1 : Rep c F1 S1 σ H1) (hk : itW d kx) :
    ∃ kd a xs, v = .ref a ∧ kx xs ∧ ∀ F' H' S2 σ2, Le F1 F' → Rep c F' S2 σ2 H' → (∀ i ∈ depS x, getS S2 i = getS S1 i ∧ σ2[i]? = σ[i]?) → ∃ vs', SqK kd K H' a vs' ∧ RvL c.pr F' xs vs' := by
  have p1 : Pk c.pr F1 H1 d v := src_same rx ok (.refl _) r1 (fun _ _ => ⟨rfl, rfl⟩)
  cases d with
  | lst xs =>
    obtain ⟨p, vs, rfl, _⟩ := id p1
    refine ⟨true, p, xs, rfl, hk, fun F' H' S2 σ2 l r ag => ?_⟩
    obtain ⟨p', vs', e', g1, g2, g3⟩ := (src_same rx ok l r ag).sql (K := K)
    cases e'
    exact ⟨vs', g1, g2⟩
  | tup xs =>
    obtain ⟨p, vs, rfl, _⟩ := id p1
    refine ⟨false, p, xs, rfl, hk, fun F' H' S2 σ2 l r ag => ?_⟩
    obtain ⟨p', vs', e', g1, g2, g3⟩ := (src_same rx ok l r ag).sqt (K := K) r.fz
    cases e'
    exact ⟨vs', g1, g2⟩
  | _ => exact (show False from hk).elim
theorem enumD_at {xs : List D} {i : Nat} {d : D} (h : xs[i]? = some d) : (enumD xs)[i]? = some (.tup [.int (i : Int), d]) := by
  unfold enumD
  obtain ⟨hi, e⟩ := List.getElem?_eq_some_iff.mp h
  rw [List.getElem?_map, List.getElem?_eq_getElem (by simpa using hi), List.getElem_zipIdx, e, Nat.zero_add]
  rfl
theorem enumD_len (xs : List D) : (enumD xs).length = xs.length := by simp [enumD]
theorem zipD_at {xs ys : List D} {i : Nat} {d e : D} (h : xs[i]? = some d) (h2 : ys[i]? = some e) : (zipD xs ys)[i]? = some (.tup [d, e]) := by
  unfold zipD
  rw [List.getElem?_map, show (xs.zip ys)[i]? = some (d, e) from List.getElem?_zip_eq_some.mpr ⟨h, h2⟩]
  rfl
theorem zipD_len (xs ys : List D) : (zipD xs ys).length = min xs.length ys.length := by simp [zipD]
theorem di_enum {t : WSr} {p tpos : Pos} {elts : List Expr} {kk : Nat} (h : DS X c e t) (hm : X.mg "enumerate" = none) (hg : Gl X "enumerate" := by rfl) (hs : starEach [e] X.env = [(false, eval e X.env)] := by rfl) (hs2 : starEach (e :: []) X.env = (false, eval e X.env) :: starEach [] X.env := by rfl) :
    DI X c (.Tuple elts kk tpos) (.Call (.Name "enumerate" p) [e] [] pos) (iEnum t) := (pi_enumK hg hm (dss_cons h dss_nil hs2) hs).imp fun σ H R hw => by
  obtain ⟨F, S, R0, rp, h, k⟩ := hw
  refine ⟨F, S, fun xs S1 => match xs with
    | [x] => okV S1 x fun d => itW d fun xs => R0 (depS x) (enumD xs) S1
    | _ => False, rp, h, ?_⟩
  · intro sx S1 vs F1 H1 q n1 r1 rs
    obtain ⟨x, rfl⟩ : ∃ x, sx = [x] := by
      match sx, q with
      | [x], _ => exact ⟨x, rfl⟩
    obtain ⟨v, vs', rfl, rx, rfl⟩ := rs
    have q : okV S1 x fun d => itW d fun xs => R0 (depS x) (enumD xs) S1 := q
    obtain ⟨d, ok, q⟩ := okV_ok q
    obtain ⟨kd, a, xs, rfl, q, good⟩ := src_seq (K := X.K) rx ok r1 q
    obtain ⟨vs0, g1, g2⟩ := good F1 H1 S1 σ (.refl _) r1 (fun _ _ => ⟨rfl, rfl⟩)
    refine ⟨kd, a, vs0, rfl, g1, fun lz => k _ _ S1 _ F1 H1 q n1 r1 ⟨fun F' H' => ∃ vs', SqK kd X.K H' a vs' ∧ RvL c.pr F' xs vs', fun F' H' S2 σ2 l r ag => good F' H' S2 σ2 l r ag, fun i F' H' hi ⟨vs', g1, g2⟩ => ?_, fun F' H' ⟨vs', g1, g2⟩ => ⟨vs', g1, by rw [enumD_len, g2.length]⟩, fun i F' H' y H'' hi ⟨vs', g1, g2⟩ fz np yl => ?_⟩ (by rw [enumD_len, ← g2.length]; exact lz)⟩
    · rw [enumD_len] at hi
      obtain ⟨v', h', _⟩ := g2.get (List.getElem?_eq_getElem hi)
      exact ⟨vs', v', g1, h'⟩
    · obtain ⟨T, x', rfl, hT, rfl, f⟩ := yl
      obtain ⟨d', h1', h2'⟩ := g2.get' (f vs' g1)
      obtain ⟨f1, g, l⟩ := fz.new (o := .tup [.int (i : Nat), x']) hT tup_nt (np T hT)
      exact ⟨_, _, enumD_at h1', l, g, f1, ⟨T, _, rfl, upd_same, ⟨_, _, rfl, rfl, _, _, rfl, Rv.mono g.le _ _ h2', rfl⟩⟩⟩
theorem di_zip {t u : WSr} {p tpos : Pos} {elts : List Expr} {kk : Nat} (h : DS X c a t) (hb : DS X c b u) (hm : X.mg "zip" = none) (hg : Gl X "zip" := by rfl)
    (hs : starEach [a, b] X.env = (false, eval a X.env) :: starEach [b] X.env := by rfl) (hpl : (backTo pos (starEach [b] X.env)).any (·.1) = false := by rfl) (hs2 : starEach (b :: []) X.env = (false, eval b X.env) :: starEach [] X.env := by rfl) :
    DI X c (.Tuple elts kk tpos) (.Call (.Name "zip" p) [a, b] [] pos) (iZip t u) := (pi_zipK hg hm (dss_cons h (dss_cons hb dss_nil hs2) hs) hs hpl).imp fun σ H R hw => by
  obtain ⟨F, S, R0, rp, h, k⟩ := hw
  refine ⟨F, S, fun xs S1 => match xs with
    | [x, y] => okV S1 x fun d => okV S1 y fun e => itW d fun xs => itW e fun ys => R0 (depS x ++ depS y) (zipD xs ys) S1
    | _ => False, rp, h, ?_⟩
  · intro sx S1 vs F1 H1 q n1 r1 rs
    obtain ⟨x, y, rfl⟩ : ∃ x y, sx = [x, y] := by
      match sx, q with
      | [x, y], _ => exact ⟨x, y, rfl⟩
    obtain ⟨v, vs', rfl, rx, w, vs2, rfl, ry, rfl⟩ := rs
    have q : okV S1 x fun d => okV S1 y fun e => itW d fun xs => itW e fun ys => R0 (depS x ++ depS y) (zipD xs ys) S1 := q
    obtain ⟨d, ok, q⟩ := okV_ok q
    obtain ⟨e, ok2, q⟩ := okV_ok q
    obtain ⟨k1, a, xs, rfl, q, good⟩ := src_seq (K := X.K) rx ok r1 q
    obtain ⟨k2, b, ys, rfl, q, good2⟩ := src_seq (K := X.K) ry ok2 r1 q
    obtain ⟨vs0, g1, g2⟩ := good F1 H1 S1 σ (.refl _) r1 (fun _ _ => ⟨rfl, rfl⟩)
    obtain ⟨ws0, g3, g4⟩ := good2 F1 H1 S1 σ (.refl _) r1 (fun _ _ => ⟨rfl, rfl⟩)
    refine ⟨k1, k2, a, b, vs0, ws0, rfl, g1, g3, fun lz lz2 => k _ _ S1 _ F1 H1 q n1 r1 ⟨fun F' H' => (∃ vs', SqK k1 X.K H' a vs' ∧ RvL c.pr F' xs vs') ∧ ∃ ws', SqK k2 X.K H' b ws' ∧ RvL c.pr F' ys ws', fun F' H' S2 σ2 l r ag => ⟨good F' H' S2 σ2 l r fun i hi => ag i (List.mem_append_left _ hi), good2 F' H' S2 σ2 l r fun i hi => ag i (List.mem_append_right _ hi)⟩, fun i F' H' hi ⟨⟨vs', g1, g2⟩, ws', g3, g4⟩ => ?_, fun F' H' ⟨⟨vs', g1, g2⟩, ws', g3, g4⟩ => ⟨vs', ws', g1, g3, ?_⟩, fun i F' H' y H'' hi ⟨⟨vs', g1, g2⟩, ws', g3, g4⟩ fz np yl => ?_⟩ ?_⟩
    · rw [zipD_len] at hi
      obtain ⟨v', h', _⟩ := g2.get (List.getElem?_eq_getElem (show i < xs.length by omega))
      obtain ⟨w', h'', _⟩ := g4.get (List.getElem?_eq_getElem (show i < ys.length by omega))
      exact ⟨vs', ws', v', w', g1, g3, h', h''⟩
    · rw [zipD_len, g2.length, g4.length]
      omega
    · obtain ⟨T, x', y', rfl, hT, rfl, f, f2⟩ := yl
      obtain ⟨d', h1', h2'⟩ := g2.get' (f vs' g1)
      obtain ⟨e', h3', h4'⟩ := g4.get' (f2 ws' g3)
      obtain ⟨f1, g, l⟩ := fz.new (o := .tup [x', y']) hT tup_nt (np T hT)
      exact ⟨_, _, zipD_at h1' h3', l, g, f1, ⟨T, _, rfl, upd_same, ⟨_, _, rfl, Rv.mono g.le _ _ h2', _, _, rfl, Rv.mono g.le _ _ h4', rfl⟩⟩⟩
    · rw [zipD_len, ← g2.length, ← g4.length]
      omega
end
end DL

set_option Elab.async false
set_option linter.all false
set_option maxRecDepth 100000
set_option maxHeartbeats 4000000
/-! x.pop(i) of a list of one's own, as a value. -/
namespace DL
open PySem PySem.Spec PyProof.Rows L2
section
variable {X : Cx} {c : Cd} {EX : Str → Prop} {k : Nat} {tg a b e : Expr} {es : List Expr} {pos : Pos}
theorem RvL.erase {pr : Addr} {F : Hp} : ∀ {ds : List D} {vs : List V} (m : Nat), RvL pr F ds vs → RvL pr F (ds.eraseIdx m) (vs.eraseIdx m)
  | [], _, m, h => by
    have h : _ = [] := h
    subst h
    exact rfl
  | d :: ds, _, 0, ⟨v, r, e, h1, h2⟩ => by
    subst e
    exact h2
  | d :: ds, _, m + 1, ⟨v, r, e, h1, h2⟩ => by
    subst e
    exact ⟨v, r.eraseIdx m, rfl, h1, RvL.erase m h2⟩
/-- a list of one's own is changed -/
theorem Nx.mut {pr p : Addr} {S : Sl} {σ : Sg} {F H : Hp} {i : Nat} {ds ds' : List D} {vs vs' : List V} (hs : getS S i = .own ds) (hσ : σ[i]? = some (some (.ref p))) (hH : H p = some (.lst vs)) : Nx pr S σ F H (S.set i (.own ds')) F (upd H p (.lst vs')) where
  le := .refl _
  kp := fun b o h n t w => by
    have ne : b ≠ p := fun z => w (z ▸ ⟨i, .inl ⟨ds, hs⟩, hσ⟩)
    rw [upd_ne ne]
    exact h
  dom := fun b hb => by
    by_cases z : b = p
    · subst z
      exact not_nn upd_same lst_nt
    · obtain ⟨o, h, t⟩ := nn_ex hb
      exact not_nn (by rw [upd_ne z]; exact h) t
  new := fun _ h => .inl h
  own := fun q ⟨j, h, hq⟩ => by
    by_cases z : j = i
    · subst z
      exact ⟨j, .inl ⟨ds, hs⟩, hq⟩
    · rw [getS_set_ne (fun e => z e.symm)] at h
      exact ⟨j, h, hq⟩
theorem de_popAt {i : Nat} {x : Str} {t : WE} {p apos cpos : Pos} (he : DE X c e t) (hN : X.N[i]? = some x := by rfl) (hv : Vis X.env.scope x := by first | exact Or.inl rfl | exact Or.inr (Or.inl rfl) | exact Or.inr (Or.inr rfl)) (hd : (x == ("__debug__" : Str)) = false := by decide) (hcd : (x == ("__classdict__" : Str)) = false := by decide)
    (hbase : attributeBase (.Name x p) "pop" X.env (eval (.Name x p) X.env) = eval (.Name x p) X.env := by rfl)
    (hfew : ((backTo cpos (starEach (e :: []) X.env)).all (fun x => !x.1) && (backToKw cpos (keywordEach [] X.env)).all (fun x => x.1.isSome) && decide ((e :: []).length + ([] : List Keyword).length + (if ([] : List Keyword).isEmpty then 0 else 1) < 30)) = true := by rfl)
    (hline : (apos.endLine == cpos.line) = true := by rfl) (hs : starEach (e :: []) X.env = (false, eval e X.env) :: starEach [] X.env := by rfl) (hplain : (backTo cpos (starEach [] X.env)).any (·.1) = false := by rfl) :
    DE X c (.Call (.Attribute (.Name x p) "pop" apos) [e] [] cpos) (wPopAt i t) := (pe_bm PySem.F.plainAttrs_list PySem.F.slot_list_pop PySem.F.type_list_pop mt_popAt (pe_var hN hv hd hcd) (pa_cons he pa_nil hs) hbase hfew hline hs hplain).imp fun σ H Q h => by
  obtain ⟨F, S, R, r, h, k⟩ := h
  rw [wPopAt_e] at h
  obtain ⟨ds, es, h⟩ := ownS_ex h
  obtain ⟨q0, vs, e1, hH, _⟩ := own_of r es
  refine ⟨.ref q0, e1, .inl ⟨rfl, vs, .inl (.inl hH)⟩, F, S, _, r, h, fun d S1 v F1 H1 q n1 r1 rv => ?_⟩
  obtain ⟨ds1, es1, j, m, y, rfl, hm, hy, b1, b2, q⟩ := ownS_ex q
  obtain ⟨p1, ws, e2, hH1, rl, _⟩ := own_of r1 es1
  rw [e1] at e2
  cases e2
  have ev : v = .int j := rv
  subst ev
  obtain ⟨w, hw, rw'⟩ := rl.get hy
  have sj := (L2.ixN_seq (ixD_N hm)).1
  exact ⟨q0, ws, j, m, w, rfl, rfl, hH1, by omega, by omega, by rw [rl.length]; exact sj, hw, k _ _ _ _ _ q (n1.trans (Nx.mut es1 e1 hH1)) (r1.mut es1 e1 hH1 (rl.erase m)) rw'⟩
end
end DL

set_option Elab.async false
set_option linter.all false
set_option maxRecDepth 100000
set_option maxHeartbeats 4000000
/-! min of a list of pairs of whole numbers. -/
namespace DL
open PySem PySem.Spec PyProof.Rows L2
open PySem.W (dataLt dataLt_tuple dataLt_all_yes dataLt_all_no dataLt_int minD AlikeAll min_list_data readsAll_at)
def prP (p : Int × Int) : PyData := .tuple [.int p.1, .int p.2]
theorem prP_lt (p q : Int × Int) : dataLt (prP p) (prP q) = decide (p.1 < q.1 ∨ (p.1 = q.1 ∧ p.2 < q.2)) := by
  have i0 : ∀ a b : Int, PySem.W.alike (.int a) (.int b) = true := fun _ _ => rfl
  have ev : ∀ a b : Int, PyData.eqv (.int a) (.int b) = decide (a = b) := fun a b => rfl
  unfold prP
  rw [dataLt_tuple]
  by_cases e : p.1 = q.1
  · rw [dataLt_all_yes (i0 _ _) (by rw [ev]; exact decide_eq_true e)]
    by_cases e2 : p.2 = q.2
    · rw [dataLt_all_yes (i0 _ _) (by rw [ev]; exact decide_eq_true e2), decide_eq_false (by omega)]
      rfl
    · rw [dataLt_all_no (i0 _ _) (by rw [ev]; exact decide_eq_false e2), dataLt_int]
      exact decide_eq_decide.mpr (by omega)
  · rw [dataLt_all_no (i0 _ _) (by rw [ev]; exact decide_eq_false e), dataLt_int]
    exact decide_eq_decide.mpr (by omega)
theorem prP_inj {p q : Int × Int} (h : prP p = prP q) : p = q := by
  unfold prP at h
  injection h with h
  injection h with h1 h2
  injection h1 with h1
  injection h2 with h2 _
  injection h2 with h2
  exact Prod.ext h1 h2
theorem minD_pairs : ∀ (ps : List (Int × Int)) (p : Int × Int), ∃ m, minD (prP p) (ps.map prP) = prP m ∧ m ∈ p :: ps ∧ ∀ q ∈ p :: ps, lexP m q
  | [], p => ⟨p, rfl, List.mem_cons_self, fun q hq => by
    rw [List.mem_singleton.mp hq]
    exact .inr ⟨rfl, Int.le_refl _⟩⟩
  | r :: ps, p => by
    have e : minD (prP p) ((r :: ps).map prP) = minD (if dataLt (prP r) (prP p) then prP r else prP p) (ps.map prP) := rfl
    rw [prP_lt] at e
    by_cases w : r.1 < p.1 ∨ (r.1 = p.1 ∧ r.2 < p.2)
    · rw [if_pos (decide_eq_true w)] at e
      obtain ⟨m, h1, h2, h3⟩ := minD_pairs ps r
      refine ⟨m, e.trans h1, List.mem_cons_of_mem _ h2, fun q hq => ?_⟩
      rcases List.mem_cons.mp hq with rfl | hq
      · have := h3 r List.mem_cons_self
        unfold lexP at this ⊢
        omega
      · exact h3 q hq
    · rw [if_neg (by simpa using w)] at e
      obtain ⟨m, h1, h2, h3⟩ := minD_pairs ps p
      refine ⟨m, e.trans h1, ?_, fun q hq => ?_⟩
      · rcases List.mem_cons.mp h2 with rfl | h2
        · exact List.mem_cons_self
        · exact List.mem_cons_of_mem _ (List.mem_cons_of_mem _ h2)
      · rcases List.mem_cons.mp hq with rfl | hq
        · exact h3 _ List.mem_cons_self
        · rcases List.mem_cons.mp hq with rfl | hq
          · have := h3 p List.mem_cons_self
            unfold lexP at this ⊢
            omega
          · exact h3 q (List.mem_cons_of_mem _ hq)
theorem depth_pairs (ps : List (Int × Int)) : PyData.depthAll (ps.map prP) ≤ 3 := by
  induction ps with
  | nil => simp [PyData.depthAll]
  | cons p ps ih =>
    rw [List.map_cons]
    show max (PyData.depth (prP p)) (PyData.depthAll (ps.map prP)) ≤ 3
    have : PyData.depth (prP p) ≤ 3 := by simp [prP, PyData.depth, PyData.depthAll]
    omega
section
variable {X : Cx}
def rMinP (K : PySem.W.Frag) : List V → Hp → VK → Prop := fun vs H Q => ∃ (a : Addr) (xs : List V) (ps : List (Int × Int)), vs = [V.ref a] ∧ SqL K H a xs ∧ DpAll K H xs (ps.map prP) ∧ ps ≠ [] ∧ ∀ (i : Nat) (x : V) (p : Int × Int), xs[i]? = some x → ps[i]? = some p → (∀ q ∈ ps, lexP p q) → Q x H
theorem dpAll_len {K : PySem.W.Frag} {H : Hp} : ∀ {xs : List V} {ds : List PyData}, DpAll K H xs ds → xs.length = ds.length
  | _, _, .nil => rfl
  | _, _, .cons _ t => by simp [dpAll_len t]
theorem cr_minP (hc : X.calm = true) (hu : X.A.units + 65 < cLine) : CallR X (.builtin "min") (rMinP X.K) := by
  intro pins s σ H vs us Q I r h
  obtain ⟨a, xs, ps, rfl, hs, hd, ne, q⟩ := h
  obtain ⟨its, rv, hl, _⟩ := I.list hs
  rw [Vals.ref1 r]
  obtain ⟨as, hr⟩ := Dp.readsAll I _ xs its hd rv
  obtain ⟨p0, pr, rfl⟩ : ∃ p0 pr, ps = p0 :: pr := by
    cases ps with
    | nil => exact absurd rfl ne
    | cons p0 pr => exact ⟨p0, pr, rfl⟩
  have len := dpAll_len hd
  rw [List.length_map] at len
  have dep := depth_pairs (p0 :: pr)
  refine min_list_data (vs := its.toArray) (x := prP p0) (xs := pr.map prP) (I.ok.hd hc) hl.isList (show ReadsAll s.heap its.toArray.toList ((p0 :: pr).map prP) as from hr) ⟨fun x hx y hy => ?_, fun x hx => ?_⟩ (by rw [show PyData.depthAll (prP p0 :: pr.map prP) = PyData.depthAll ((p0 :: pr).map prP) from rfl]; omega) fun i v h' tk bs hv hR hk => ?_
  · obtain ⟨p1, _, rfl⟩ := List.mem_map.mp (show x ∈ (p0 :: pr).map prP from hx)
    obtain ⟨p2, _, rfl⟩ := List.mem_map.mp (show y ∈ (p0 :: pr).map prP from hy)
    rfl
  · obtain ⟨p1, _, rfl⟩ := List.mem_map.mp (show x ∈ (p0 :: pr).map prP from hx)
    intro e
    cases e
  · have hv2 : its[i]? = some v := by simpa using hv
    obtain ⟨bs2, r2, il, _⟩ := readsAll_at hr i v hv2
    rw [List.length_map] at il
    have ex : xs[i]? = some (xs[i]'(by omega)) := List.getElem?_eq_getElem (by omega)
    obtain ⟨u, hu2, ru⟩ := rv.get ex
    rw [hv2] at hu2
    cases hu2
    have ep : (p0 :: pr)[i]? = some ((p0 :: pr)[i]'il) := List.getElem?_eq_getElem il
    have ed : ((p0 :: pr).map prP).getD i .none = prP ((p0 :: pr)[i]'il) := by
      rw [List.getD_eq_getElem?_getD, List.getElem?_map, ep]
      rfl
    rw [ed] at r2
    obtain ⟨m, m1, m2, m3⟩ := minD_pairs pr p0
    rw [m1] at hR
    have e := (Reads.unique (PySem.W.reads_keeps hk r2) _ _ hR).1
    have e := prP_inj e
    exact ⟨_, H, I.kept hk, ru, q i _ _ ex ep (by rw [e]; exact m3)⟩
end
end DL

set_option Elab.async false
set_option linter.all false
set_option maxRecDepth 100000
set_option maxHeartbeats 4000000
/-! xs[::c] of a tuple. -/
namespace DL
open PySem PySem.Spec PyProof.Rows L2
section
variable {prog : Program} {w : World} {A : Around} {E : Value → Shared → Prop} {s : Shared}
theorem sliceApplied_step {sl : Addr} {c : Int} {t : Tok} {n : Nat} {Q : Int × Int × Nat → Shared → Prop} (hs : s.heap.IsSliceOf sl .none .none (.int c t)) (hc : c ≠ 0)
    (h : Q ((Builtin.Slice.sliceAdjust none none c (n : Int)).1, c, Builtin.Slice.slicePlaces (Builtin.Slice.sliceAdjust none none c (n : Int)).1 (Builtin.Slice.sliceAdjust none none c (n : Int)).2 c) s) : wpAny (model prog w) A (Builtin.Slice.sliceApplied (.ref sl) (pure (n : Int))) Q E s := by
  obtain ⟨os, hos, hcs, hds⟩ := id hs
  unfold Builtin.Slice.sliceApplied Builtin.Slice.sliceFields
  refine wpAny_bind (wpAny_bind (wpAny_field hos hds (x := .none) rfl (wpAny_bind (wpAny_field hos hds (x := .none) rfl (wpAny_bind (wpAny_field hos hds (x := .int c t) rfl (wpAny_pure ?_)))))))
  refine wpAny_bind (slicePart_int ?_)
  show wpAny _ _ (if (c == 0) = true then _ else _) _ _ s
  rw [if_neg (by simpa using hc)]
  refine wpAny_bind (slicePart_none (wpAny_bind (slicePart_none (wpAny_bind (wpAny_pure ?_)))))
  exact wpAny_pure h
/-- the places of xs[::c] -/
def stepN (c : Int) (n : Nat) : List Nat := (List.range (Builtin.Slice.slicePlaces (Builtin.Slice.sliceAdjust none none c (n : Int)).1 (Builtin.Slice.sliceAdjust none none c (n : Int)).2 c)).map fun (k : Nat) => ((Builtin.Slice.sliceAdjust none none c (n : Int)).1 + (k : Int) * c).toNat
theorem getItem_tuple_step {t sl : Addr} {items : Array Value} {c : Int} {tk : Tok} {Q : Value → Shared → Prop} (ht : IsTup s.heap t items) (hs : s.heap.IsSliceOf sl .none .none (.int c tk)) (hc : c ≠ 0) (h1 : c ≠ 1)
    (h : Q (.ref s.heap.objs.size) { s with heap := s.heap.push { cls := .type "tuple", data := .seq ((stepN c items.size).filterMap fun k => items[k]?).toArray } })
    (hsz : sizeOk (.seq ((stepN c items.size).filterMap fun k => items[k]?).toArray)) : wpAny (model prog w) A (getItem (.ref t) (.ref sl)) Q E s := by
  obtain ⟨os, hos, hcs, hds⟩ := id hs
  have hTs : s.TypeIs (.ref sl) "slice" := ⟨os, hos, hcs⟩
  unfold getItem
  try with_reducible refine wpAny_holding ?_
  first | refine wpAny_bind (wpAny_pure ?_) | skip
  refine wpAny_bind (wpAny_sequenceKey ht.typeIs (by decide) ?_)
  refine wpAny_bind (wpAny_callSpecial?_slot (name := Str.ofString "__getitem__") ht.typeIs PyProof.Rows.slot_tuple_getitem
    (wpAny_call_entry PyProof.Rows.slot_tuple_getitem ht.typeIs entry_tuple_getitem ?_ (args_tuple_getitem _ _)))
  show wpAny _ _ (Builtin.Tuple.tupleItemsOf (.ref t) >>= _) _ _ s
  refine wpAny_bind (tupleItemsOf_ ht ?_)
  refine wpAny_bind (wpAny_typeOf hTs ?_)
  rw [if_pos (by decide)]
  refine wpAny_bind (sliceApplied_step hs hc ?_)
  have hno : ∀ (a : Int) (k : Nat), ¬ ((a == 0 && c == 1 && k == items.size) = true) := by
    intro a k q
    rw [Bool.and_eq_true, Bool.and_eq_true] at q
    exact h1 (eq_of_beq q.1.2)
  have e : ((List.range (Builtin.Slice.slicePlaces (Builtin.Slice.sliceAdjust none none c (items.size : Int)).1 (Builtin.Slice.sliceAdjust none none c (items.size : Int)).2 c)).filterMap fun (k : Nat) => items[((Builtin.Slice.sliceAdjust none none c (items.size : Int)).1 + (k : Int) * c).toNat]?) = (stepN c items.size).filterMap fun k => items[k]? := by
    unfold stepN
    rw [List.filterMap_map]
    rfl
  show wpAny _ _ (if ((Builtin.Slice.sliceAdjust none none c (items.size : Int)).1 == 0 && c == 1 && _ == items.size) = true then _ else _) _ _ s
  rw [if_neg (hno _ _), e]
  first
    | exact wpAny_bind (m := Builtin.Tuple.tupleExact _) (wpAny_newObj_type (wpAny_pure ⟨_, rfl, wpAny_pure h⟩) hsz)
    | exact wpAny_bind (m := Builtin.Tuple.tupleExact _) (wpAny_newObj_type (wpAny_bind (wpAny_pure (wpAny_pure ⟨_, rfl, wpAny_pure h⟩))) hsz)
    | exact wpAny_bind (wpAny_bind (m := Builtin.Tuple.tupleExact _) (wpAny_newObj_type (wpAny_pure (wpAny_pure ⟨_, rfl, wpAny_pure h⟩)) hsz))
    | exact wpAny_bind (wpAny_bind (m := Builtin.Tuple.tupleExact _) (wpAny_newObj_type (wpAny_pure ⟨_, rfl, wpAny_pure h⟩) hsz))
end
theorem stepN_eq {c : Int} (h : c = -1 ∨ c = 2) (n : Nat) : stepN c n = stepP c n := by
  rcases h with rfl | rfl
  · have e1 : (Builtin.Slice.sliceAdjust none none (-1) (n : Int)) = ((n : Int) - 1, -1) := rfl
    have e2 : Builtin.Slice.slicePlaces ((n : Int) - 1) (-1) (-1) = n := by
      unfold Builtin.Slice.slicePlaces
      rw [if_neg (by decide)]
      by_cases q : (n : Int) - 1 > -1
      · rw [if_pos q]
        have : ((n : Int) - 1 - -1 - 1) / (- -1) = (n : Int) - 1 := by
          rw [show (- -1 : Int) = 1 from rfl, Int.ediv_one]
          omega
        rw [this]
        omega
      · rw [if_neg q]
        omega
    unfold stepN stepP
    rw [e1, e2, if_pos rfl]
    refine List.map_congr_left fun k hk => ?_
    have := List.mem_range.mp hk
    show ((n : Int) - 1 + (k : Int) * -1).toNat = n - 1 - k
    omega
  · have e1 : (Builtin.Slice.sliceAdjust none none 2 (n : Int)) = (0, (n : Int)) := rfl
    have e2 : Builtin.Slice.slicePlaces 0 (n : Int) 2 = (n + 1) / 2 := by
      unfold Builtin.Slice.slicePlaces
      rw [if_pos (by decide)]
      by_cases q : 0 < (n : Int)
      · rw [if_pos q]
        omega
      · rw [if_neg q]
        omega
    unfold stepN stepP
    rw [e1, e2, if_neg (by decide)]
    refine List.map_congr_left fun k hk => ?_
    show ((0 : Int) + (k : Int) * 2).toNat = 2 * k
    omega
theorem stepL_eq {c : Int} (h : c = -1 ∨ c = 2) (n : Nat) : sliceRange (sliceBounds none none (some c) n).1 (sliceBounds none none (some c) n).2.1 (sliceBounds none none (some c) n).2.2 = stepP c n := by
  rcases h with rfl | rfl
  · have e : sliceBounds none none (some (-1)) n = ((n : Int) - 1, -1, -1) := rfl
    rw [e]
    unfold sliceRange stepP
    rw [if_pos rfl]
    have ec : (if (-1 : Int) > 0 then (if (n : Int) - 1 < -1 then (-1 - ((n : Int) - 1) + -1 - 1) / -1 else 0) else (if (n : Int) - 1 > -1 then ((n : Int) - 1 - -1 - -1 - 1) / (- -1) else 0)).toNat = n := by
      rw [if_neg (by decide)]
      by_cases q : (n : Int) - 1 > -1
      · rw [if_pos q, show (- -1 : Int) = 1 from rfl, Int.ediv_one]
        omega
      · rw [if_neg q]
        omega
    show (List.range _).map _ = _
    rw [show (if (-1 : Int) > 0 then (if (n : Int) - 1 < -1 then (-1 - ((n : Int) - 1) + -1 - 1) / -1 else 0) else (if (n : Int) - 1 > -1 then ((n : Int) - 1 - -1 - -1 - 1) / (- -1) else 0)).toNat = n from ec]
    refine List.map_congr_left fun k hk => ?_
    have := List.mem_range.mp hk
    show ((n : Int) - 1 + -1 * (k : Int)).toNat = n - 1 - k
    omega
  · have e : sliceBounds none none (some 2) n = (0, (n : Int), 2) := rfl
    rw [e, show stepP 2 n = (List.range ((n + 1) / 2)).map fun k => 2 * k from rfl]
    unfold sliceRange
    have ec : (if (2 : Int) > 0 then (if (0 : Int) < (n : Int) then ((n : Int) - 0 + 2 - 1) / 2 else 0) else (if (0 : Int) > (n : Int) then (0 - (n : Int) - 2 - 1) / (-2) else 0)).toNat = (n + 1) / 2 := by
      rw [if_pos (by decide)]
      by_cases q : (0 : Int) < (n : Int)
      · rw [if_pos q]
        omega
      · rw [if_neg q]
        omega
    show (List.range _).map _ = _
    rw [show (if (2 : Int) > 0 then (if (0 : Int) < (n : Int) then ((n : Int) - 0 + 2 - 1) / 2 else 0) else (if (0 : Int) > (n : Int) then (0 - (n : Int) - 2 - 1) / (-2) else 0)).toNat = (n + 1) / 2 from ec]
    refine List.map_congr_left fun k hk => ?_
    show ((0 : Int) + 2 * (k : Int)).toNat = 2 * k
    omega
theorem stepP_len {c : Int} (n : Nat) : (stepP c n).length ≤ n := by
  unfold stepP
  split <;> simp
  omega
theorem vals_pick {xs : List V} {its : List Value} (r : Vals xs its) : ∀ L : List Nat, Vals (L.filterMap fun k => xs[k]?) (L.filterMap fun k => its[k]?)
  | [] => .nil
  | k :: L => by
    cases e : xs[k]? with
    | none =>
      have e2 : its[k]? = none := by
        rw [List.getElem?_eq_none_iff] at e ⊢
        have := r.length
        omega
      rw [List.filterMap_cons_none e, List.filterMap_cons_none e2]
      exact vals_pick r L
    | some x =>
      obtain ⟨u, e2, ru⟩ := r.get e
      rw [List.filterMap_cons_some e, List.filterMap_cons_some e2]
      exact .cons ru (vals_pick r L)
end DL

set_option Elab.async false
set_option linter.all false
set_option maxRecDepth 100000
set_option maxHeartbeats 4000000
/-! min of pairs; slices with a step. -/
namespace DL
open PySem PySem.Spec PyProof.Rows L2
section
variable {X : Cx} {c : Cd} {EX : Str → Prop} {k : Nat} {tg a b e st : Expr} {es : List Expr} {pos p2 : Pos} {te ts : TE}
theorem dpAll_pairs {F H : Hp} (fz : Fz c.pr F H) : ∀ {ps : List (Int × Int)} {vs : List V}, RvL c.pr F (ps.map pD) vs → DpAll X.K H vs (ps.map prP)
  | [], vs, h => by
    have h : vs = [] := h
    subst h
    exact .nil
  | p :: ps, _, ⟨v, r, e, h1, h2⟩ => by
    subst e
    have d : Dp X.K H v (toPy (pD p)) := (Rv.pk h1 fz.le).dp (n := 2) fz (by unfold pD; simp)
    exact .cons d (dpAll_pairs fz h2)
theorem b_minP (hc : X.calm = true) (hu : X.A.units + 65 < cLine) : CallR X (.builtin "min") (LNv c min1P) := CallR.imp (cr_minP hc hu) fun xs H Q h => by
  obtain ⟨F, ds, R, fz, np, p, q, k⟩ := h
  match ds, q with
  | [.lst ys], q =>
    obtain ⟨v, rfl, p1⟩ := pks1 p
    obtain ⟨ps, rfl, hn, q⟩ := q
    obtain ⟨a, vs, rfl, h1, rl, _⟩ := p1.sql (K := X.K)
    refine ⟨a, vs, ps, rfl, h1, dpAll_pairs fz rl, hn, fun i x p hx hp mn => ?_⟩
    obtain ⟨v, hv, rv⟩ := rl.get (i := i) (d := pD p) (by rw [List.getElem?_map, hp]; rfl)
    rw [hx] at hv
    cases hv
    exact k _ _ _ _ (q p (List.mem_of_getElem? hp) mn) (.refl _) (.refl _ _) fz rv
def pickV (c : Int) (xs : List V) : List V := (stepP c xs.length).filterMap fun k => xs[k]?
def rSlStep (K : PySem.W.Frag) : V → Int → Hp → VK → Prop := fun x c H Q => (c = -1 ∨ c = 2) ∧ ((∃ a xs, x = .ref a ∧ SqT K H a xs ∧ ∀ p, H p = none → Q (.ref p) (upd H p (.tup (pickV c xs)))) ∨ (∃ a xs, x = .ref a ∧ SqL K H a xs ∧ ∀ p, H p = none → Q (.ref p) (upd H p (.lst (pickV c xs)))))
def tSlS (K : PySem.W.Frag) (te ts : TE) : TE := fun σ H Q => te σ H fun x H1 => ts σ H1 fun y H2 => ∃ c, y = .int c ∧ rSlStep K x c H2 Q
theorem pickV_len (c : Int) (xs : List V) : (pickV c xs).length ≤ xs.length := Nat.le_trans (List.length_filterMap_le _ _) (stepP_len _)
theorem pe_slStep (he : PE X e te) (hst : PE X st ts) : PE X (.Subscript e (.Slice none none (some st) p2) pos) (tSlS X.K te ts) := by
  refine ⟨fun pins s σ H Q I h => ?_⟩
  refine Subscript_ (thn (he.run pins s σ H _ I h) fun v s1 ⟨x, H1, I1, r1, q1⟩ => ?_)
  refine wpAny_Slice ?_
  rw [evalPart_none]
  refine wpAny_pure ?_
  refine wpAny_pure ?_
  rw [evalPart_some]
  refine thn (hst.run pins s1 σ H1 _ I1 q1) fun u s2 ⟨y, H2, I2, r2, cc, ey, hc, q2⟩ => ?_
  subst ey
  obtain ⟨t, rfl⟩ := r2
  have I4 : Inv X pins σ H2 { s2 with heap := s2.heap.push { cls := .type "slice", data := .fields #[.none, .none, .int cc t] } } := I2.kept (t' := s2.toks) fun b ob q => Heap.get?_push_of_some _ q
  show wpAny (model X.prog X.w) X.A (subscriptTail e (.Slice none none (some st) p2) v (.ref s2.heap.objs.size)) (EP X pins σ Q) X.xe { s2 with heap := s2.heap.push { cls := .type "slice", data := .fields #[.none, .none, .int cc t] } }
  have c0 : cc ≠ 0 := by omega
  have c1 : cc ≠ 1 := by omega
  rcases q2 with ⟨a, xs, rfl, hx, q⟩ | ⟨a, xs, rfl, hx, q⟩
  · cases r1
    obtain ⟨its, r, ht, hz⟩ := I4.tuple hx
    have hlen : its.toArray.size = xs.length := by rw [List.size_toArray]; exact r.length.symm
    have ep : (stepN cc its.toArray.size).filterMap (fun k => its.toArray[k]?) = (stepP cc xs.length).filterMap fun k => its[k]? := by
      rw [stepN_eq hc, hlen]
      simp
    refine tail_any (ops := [.ref a, .ref s2.heap.objs.size]) ht.typeIs PyProof.Rows.slot_tuple_getitem.lookup (getItem_tuple_step ht (Heap.IsSliceOf.new ..) c0 c1 ?_ ?_) (by with_unfolding_all rfl)
    · rw [ep]
      refine ⟨.ref _, _, I4.laid (t' := s2.toks) (o := .tup (pickV cc xs)) (fun b ob q => Heap.get?_push_of_some _ q) (Nat.le_refl _) ?_, rfl, q _ (I4.hok.fresh (Nat.le_refl _))⟩
      exact ⟨Nat.le_trans (pickV_len _ _) hz, _, vals_pick r _, IsTup.new _ _⟩
    · rw [ep]
      show ((stepP cc xs.length).filterMap fun k => its[k]?).toArray.size ≤ sizeLine
      rw [List.size_toArray]
      exact Nat.le_trans (List.length_filterMap_le _ _) (Nat.le_trans (stepP_len _) hz)
  · cases r1
    obtain ⟨its, r, ht, hz⟩ := I4.list hx
    have hlen : its.toArray.size = xs.length := by rw [List.size_toArray]; exact r.length.symm
    have ep : slicePick its.toArray none none (some cc) = ((stepP cc xs.length).filterMap fun k => its[k]?).toArray := by
      unfold slicePick
      rw [stepL_eq hc, hlen]
      simp
    refine tail_any (ops := [.ref a, .ref s2.heap.objs.size]) ht.isList.typeIs list_getitem_lookup (wpAny_getItem_list_slice ht.isList (Heap.IsSliceOf.new ..) .none .none (.int cc t) (by simpa using c0) ?_ (by rw [hlen]; exact hz)) (by with_unfolding_all rfl)
    rw [ep]
    refine ⟨.ref _, _, I4.laid (t' := s2.toks) (o := .lst (pickV cc xs)) (fun b ob q => Heap.get?_push_of_some _ q) (Nat.le_refl _) ?_, rfl, q _ (I4.hok.fresh (Nat.le_refl _))⟩
    exact ⟨Nat.le_trans (pickV_len _ _) hz, _, _, vals_pick r _, Heap.get?_push_size _ rfl⟩
theorem rvl_pick {F : Hp} {xs : List D} {vs : List V} (r : RvL c.pr F xs vs) : ∀ L : List Nat, RvL c.pr F (L.filterMap fun k => xs[k]?) (L.filterMap fun k => vs[k]?)
  | [] => rfl
  | k :: L => by
    cases e : xs[k]? with
    | none =>
      have e2 : vs[k]? = none := by
        rw [List.getElem?_eq_none_iff] at e ⊢
        have := r.length
        omega
      rw [List.filterMap_cons_none e, List.filterMap_cons_none e2]
      exact rvl_pick r L
    | some x =>
      obtain ⟨u, e2, ru⟩ := r.get e
      rw [List.filterMap_cons_some e, List.filterMap_cons_some e2]
      exact ⟨_, _, rfl, ru, rvl_pick r L⟩
theorem de_slStep {t : WSr} {u : WE} (h : DS X c e t) (hu : DE X c st u) : DE X c (.Subscript e (.Slice none none (some st) p2) pos) (wOp slW t (wD u)) := (pe_slStep h hu).imp fun σ H Q h => by
  obtain ⟨F, S, R, r, h, k⟩ := h
  refine ⟨F, S, _, r, h, fun x S1 v F1 H1 q n1 r1 rx => ⟨F1, S1, _, r1, q, fun e2 S2 y F2 H2 q n2 r2 ry => ?_⟩⟩
  obtain ⟨d, ok, q⟩ := okV_ok q
  have q : slW d e2 fun z => R z S2 := q
  cases e2 with
  | int cc =>
    have ey : y = .int cc := ry
    subst ey
    rw [slW_i] at q
    have p1 : Pk c.pr F2 H2 d v := src_same (rx.mono n2.le) ok (.refl _) r2 (fun _ _ => ⟨rfl, rfl⟩)
    cases d with
    | tup xs =>
      rw [slS_t] at q
      obtain ⟨hc, q⟩ := q
      obtain ⟨a, vs, rfl, g1, rl, g3⟩ := p1.sqt (K := X.K) r2.fz
      refine ⟨cc, rfl, hc, .inl ⟨a, vs, rfl, g1, fun p hp => ?_⟩⟩
      obtain ⟨f, g, l⟩ := r2.fz.new (o := .tup (pickV cc vs)) hp tup_nt (r2.nepr hp)
      have rp : RvL c.pr F2 (stepD cc xs) (pickV cc vs) := by
        unfold stepD pickV
        rw [← rl.length]
        exact rvl_pick rl _
      exact k _ S2 _ _ _ q (n1.trans (n2.trans (.grow l g))) (r2.grow l g f) ⟨p, _, rfl, upd_same, RvL.mono g.le _ _ rp⟩
    | _ => exact (show False from q).elim
  | _ => exact (show False from q).elim
theorem dl_slStep {t : WSr} {u : WE} (h : DS X c e t) (hu : DE X c st u) : DFr X c (.Subscript e (.Slice none none (some st) p2) pos) (wOpL slLW t (wD u)) := (pe_slStep h hu).imp fun σ H Q h => by
  obtain ⟨F, S, R, r, h, k⟩ := h
  refine ⟨F, S, _, r, h, fun x S1 v F1 H1 q n1 r1 rx => ⟨F1, S1, _, r1, q, fun e2 S2 y F2 H2 q n2 r2 ry => ?_⟩⟩
  obtain ⟨d, ok, q⟩ := okV_ok q
  have q : slLW d e2 fun z => R z S2 := q
  cases e2 with
  | int cc =>
    have ey : y = .int cc := ry
    subst ey
    rw [slLW_i] at q
    have p1 : Pk c.pr F2 H2 d v := src_same (rx.mono n2.le) ok (.refl _) r2 (fun _ _ => ⟨rfl, rfl⟩)
    cases d with
    | lst xs =>
      rw [slLS_l] at q
      obtain ⟨hc, q⟩ := q
      obtain ⟨a, vs, rfl, g1, rl, g3⟩ := p1.sql (K := X.K)
      refine ⟨cc, rfl, hc, .inr ⟨a, vs, rfl, g1, fun p hp => ?_⟩⟩
      have rp : RvL c.pr F2 (stepD cc xs) (pickV cc vs) := by
        unfold stepD pickV
        rw [← rl.length]
        exact rvl_pick rl _
      obtain ⟨nf, rf⟩ := r2.fresh (o := .lst (pickV cc vs)) hp
      exact k _ S2 _ _ _ q ((n1.trans n2).trans nf) rf (newL r2 (n1.trans n2) hp rp)
    | _ => exact (show False from q).elim
  | _ => exact (show False from q).elim
end
end DL

set_option Elab.async false
set_option linter.all false
set_option maxRecDepth 100000
set_option maxHeartbeats 4000000
/-! Dicts with whole numbers, or tuples of whole numbers, as keys. -/
namespace DL
open PySem PySem.Spec PyProof.Rows L2
section
variable {pr : Addr} {F : Hp}
theorem RvI.look {i : Int} : ∀ {kvs : List (Int × D)} {kws : List (Key × V)}, RvI pr F kvs kws → (∀ d, lookI kvs i = some d → ∃ v, valV kws (Sum.inl i) = some v ∧ Rv pr F d v) ∧ (lookI kvs i = none → valV kws (Sum.inl i) = none)
  | [], _, r => by
    rw [show _ = [] from r]
    exact ⟨fun d h => (by cases h), fun _ => rfl⟩
  | (k, d) :: kvs, _, r => by
    obtain ⟨v, t, rfl, r1, r2⟩ := r
    obtain ⟨h1, h2⟩ := RvI.look (i := i) r2
    rw [lookI_K, lookK_cons]
    by_cases h : k = i
    · rw [if_pos h, valV_pos (show (Sum.inl k, v).1 = Sum.inl i by rw [h])]
      exact ⟨fun d' e => ⟨v, rfl, (Option.some.inj e) ▸ r1⟩, fun e => by cases e⟩
    · rw [if_neg h, valV_neg (show ¬ (Sum.inl k, v).1 = Sum.inl i from fun e => h (Sum.inl.inj e))]
      exact ⟨h1, h2⟩
theorem RvT.look {i : List Int} : ∀ {kvs : List (List Int × D)} {kws : List (List Key × V)}, RvT pr F kvs kws → (∀ d, lookT kvs i = some d → ∃ v, valV kws (i.map Sum.inl) = some v ∧ Rv pr F d v) ∧ (lookT kvs i = none → valV kws (i.map Sum.inl) = none)
  | [], _, r => by
    rw [show _ = [] from r]
    exact ⟨fun d h => (by cases h), fun _ => rfl⟩
  | (k, d) :: kvs, _, r => by
    obtain ⟨v, t, rfl, r1, r2⟩ := r
    obtain ⟨h1, h2⟩ := RvT.look (i := i) r2
    rw [lookT_K, lookK_cons]
    by_cases h : k = i
    · rw [if_pos h, valV_pos (show (k.map Sum.inl, v).1 = i.map Sum.inl by rw [h])]
      exact ⟨fun d' e => ⟨v, rfl, (Option.some.inj e) ▸ r1⟩, fun e => by cases e⟩
    · rw [if_neg h, valV_neg (show ¬ (k.map Sum.inl, v).1 = i.map Sum.inl from fun e => h ((List.map_inj_right fun x y e => Sum.inl.inj e).mp e))]
      exact ⟨h1, h2⟩
theorem RvI.length : ∀ {kvs : List (Int × D)} {kws : List (Key × V)}, RvI pr F kvs kws → kws.length = kvs.length
  | [], _, r => by rw [show _ = [] from r]; rfl
  | _ :: _, _, r => by
    obtain ⟨v, t, rfl, r1, r2⟩ := r
    rw [List.length_cons, List.length_cons, RvI.length r2]
theorem RvT.length : ∀ {kvs : List (List Int × D)} {kws : List (List Key × V)}, RvT pr F kvs kws → kws.length = kvs.length
  | [], _, r => by rw [show _ = [] from r]; rfl
  | _ :: _, _, r => by
    obtain ⟨v, t, rfl, r1, r2⟩ := r
    rw [List.length_cons, List.length_cons, RvT.length r2]
theorem RvI.keys : ∀ {kvs : List (Int × D)} {kws : List (Key × V)}, RvI pr F kvs kws → kws.map (·.1) = (kvs.map (·.1)).map Sum.inl
  | [], _, r => by rw [show _ = [] from r]; rfl
  | _ :: _, _, r => by
    obtain ⟨v, t, rfl, r1, r2⟩ := r
    rw [List.map_cons, List.map_cons, List.map_cons, RvI.keys r2]
theorem RvI.any {i : Int} : ∀ {kvs : List (Int × D)} {kws : List (Key × V)}, RvI pr F kvs kws → (kws.any fun p => decide (p.1 = Sum.inl i)) = kvs.any fun p => decide (p.1 = i)
  | [], _, r => by rw [show _ = [] from r]; rfl
  | (k, d) :: _, _, r => by
    obtain ⟨v, t, rfl, r1, r2⟩ := r
    rw [List.any_cons, List.any_cons, RvI.any r2]
    by_cases h : k = i
    · rw [show decide ((Sum.inl k : Key) = Sum.inl i) = true from decide_eq_true (by rw [h]), decide_eq_true (show ((k, d) : Int × D).1 = i from h)]
    · rw [show decide ((Sum.inl k : Key) = Sum.inl i) = false from decide_eq_false fun e => h (Sum.inl.inj e), decide_eq_false (show ¬ ((k, d) : Int × D).1 = i from h)]
theorem RvT.any {i : List Int} : ∀ {kvs : List (List Int × D)} {kws : List (List Key × V)}, RvT pr F kvs kws → (kws.any fun p => decide (p.1 = i.map Sum.inl)) = kvs.any fun p => decide (p.1 = i)
  | [], _, r => by rw [show _ = [] from r]; rfl
  | (k, d) :: _, _, r => by
    obtain ⟨v, t, rfl, r1, r2⟩ := r
    rw [List.any_cons, List.any_cons, RvT.any r2]
    by_cases h : k = i
    · rw [show decide ((k.map Sum.inl : List Key) = i.map Sum.inl) = true from decide_eq_true (by rw [h]), decide_eq_true (show ((k, d) : List Int × D).1 = i from h)]
    · rw [show decide ((k.map Sum.inl : List Key) = i.map Sum.inl) = false from decide_eq_false fun e => h ((List.map_inj_right fun x y e => Sum.inl.inj e).mp e), decide_eq_false (show ¬ ((k, d) : List Int × D).1 = i from h)]
theorem RvI.repl {i : Int} {d : D} {v : V} (s : Rv pr F d v) : ∀ {kvs : List (Int × D)} {kws : List (Key × V)}, RvI pr F kvs kws → RvI pr F (kvs.map fun p => if p.1 = i then (p.1, d) else p) (kws.map fun p => if p.1 = Sum.inl i then (p.1, v) else p)
  | [], _, r => by rw [show _ = [] from r]; exact rfl
  | (k, e) :: _, _, r => by
    obtain ⟨u, t, rfl, r1, r2⟩ := r
    rw [List.map_cons, List.map_cons]
    by_cases h : k = i
    · rw [if_pos (show ((k, e) : Int × D).1 = i from h), if_pos (show ((Sum.inl k, u) : Key × V).1 = Sum.inl i by rw [h])]
      exact ⟨v, _, rfl, s, RvI.repl s r2⟩
    · rw [if_neg (show ¬ ((k, e) : Int × D).1 = i from h), if_neg (show ¬ ((Sum.inl k, u) : Key × V).1 = Sum.inl i from fun e => h (Sum.inl.inj e))]
      exact ⟨u, _, rfl, r1, RvI.repl s r2⟩
theorem RvT.repl {i : List Int} {d : D} {v : V} (s : Rv pr F d v) : ∀ {kvs : List (List Int × D)} {kws : List (List Key × V)}, RvT pr F kvs kws → RvT pr F (kvs.map fun p => if p.1 = i then (p.1, d) else p) (kws.map fun p => if p.1 = i.map Sum.inl then (p.1, v) else p)
  | [], _, r => by rw [show _ = [] from r]; exact rfl
  | (k, e) :: _, _, r => by
    obtain ⟨u, t, rfl, r1, r2⟩ := r
    rw [List.map_cons, List.map_cons]
    by_cases h : k = i
    · rw [if_pos (show ((k, e) : List Int × D).1 = i from h), if_pos (show ((k.map Sum.inl, u) : List Key × V).1 = i.map Sum.inl by rw [h])]
      exact ⟨v, _, rfl, s, RvT.repl s r2⟩
    · rw [if_neg (show ¬ ((k, e) : List Int × D).1 = i from h), if_neg (show ¬ ((k.map Sum.inl, u) : List Key × V).1 = i.map Sum.inl from fun e => h ((List.map_inj_right fun x y e => Sum.inl.inj e).mp e))]
      exact ⟨u, _, rfl, r1, RvT.repl s r2⟩
theorem RvI.snoc {i : Int} {d : D} {v : V} (s : Rv pr F d v) : ∀ {kvs : List (Int × D)} {kws : List (Key × V)}, RvI pr F kvs kws → RvI pr F (kvs ++ [(i, d)]) (kws ++ [(Sum.inl i, v)])
  | [], _, r => by rw [show _ = [] from r]; exact ⟨v, [], rfl, s, rfl⟩
  | (k, e) :: _, _, r => by
    obtain ⟨u, t, rfl, r1, r2⟩ := r
    exact ⟨u, _, rfl, r1, RvI.snoc s r2⟩
theorem RvT.snoc {i : List Int} {d : D} {v : V} (s : Rv pr F d v) : ∀ {kvs : List (List Int × D)} {kws : List (List Key × V)}, RvT pr F kvs kws → RvT pr F (kvs ++ [(i, d)]) (kws ++ [(i.map Sum.inl, v)])
  | [], _, r => by rw [show _ = [] from r]; exact ⟨v, [], rfl, s, rfl⟩
  | (k, e) :: _, _, r => by
    obtain ⟨u, t, rfl, r1, r2⟩ := r
    exact ⟨u, _, rfl, r1, RvT.snoc s r2⟩
theorem RvI.put {kvs : List (Int × D)} {kws : List (Key × V)} {i : Int} {d : D} {v : V} (r : RvI pr F kvs kws) (s : Rv pr F d v) : RvI pr F (putD kvs i d) (putK kws (Sum.inl i) v) := by
  unfold putD putK
  rw [r.any]
  by_cases h : (kvs.any fun p => decide (p.1 = i)) = true
  · rw [if_pos h, if_pos h]
    exact r.repl s
  · rw [if_neg h, if_neg h]
    exact r.snoc s
theorem RvT.put {kvs : List (List Int × D)} {kws : List (List Key × V)} {i : List Int} {d : D} {v : V} (r : RvT pr F kvs kws) (s : Rv pr F d v) : RvT pr F (putD kvs i d) (putK kws (i.map Sum.inl) v) := by
  unfold putD putK
  rw [r.any]
  by_cases h : (kvs.any fun p => decide (p.1 = i)) = true
  · rw [if_pos h, if_pos h]
    exact r.repl s
  · rw [if_neg h, if_neg h]
    exact r.snoc s
theorem keys_V (ns : List Int) : ns.map V.int = (ns.map (Sum.inl : Int → Key)).map kV := by
  rw [List.map_map]
  rfl
end
section
variable {X : Cx} {c : Cd} {EX : Str → Prop} {k : Nat} {tg a b e : Expr} {es : List Expr} {pos : Pos}
/-- l is what is looked up -/
def LkR (d e : D) (l : Option D) : Prop := match d, e with
  | .dI kvs, .int i => l = lookI kvs i
  | .dT kvs, .tup ks => ∀ ns : List Int, ks = ns.map D.int → l = lookT kvs ns
  | _, _ => False
/-- what a dict holds at a key -/
theorem dget_of {F H : Hp} {d e : D} {v u : V} (fz : Fz c.pr F H) (p1 : Pk c.pr F H d v) (p2 : Pk c.pr F H e u) (h : (∃ kvs i, d = .dI kvs ∧ e = .int i) ∨ ∃ (kvs : List (List Int × D)) (ns : List Int), d = .dT kvs ∧ e = .tup (ns.map D.int)) :
    ∃ q, v = .ref q ∧ IsD H q ∧ ∃ (l : Option D), LkR d e l ∧ ((∃ z w, l = some z ∧ DGet H q u (some w) ∧ Rv c.pr F z w) ∨ (l = none ∧ DGet H q u none)) := by
  rcases h with ⟨kvs, i, rfl, rfl⟩ | ⟨kvs, ns, rfl, rfl⟩
  · obtain ⟨q, kws, rfl, rd, rl⟩ := p1
    have eu : u = .int i := p2
    subst eu
    obtain ⟨h1, h2⟩ := rl.look (i := i)
    refine ⟨q, rfl, .inl ⟨kws, rd⟩, lookI kvs i, rfl, ?_⟩
    cases hl : lookI kvs i with
    | some z =>
      obtain ⟨w, e1, e2⟩ := h1 z hl
      exact .inl ⟨z, w, rfl, .inl ⟨kws, Sum.inl i, rd, rfl, e1.symm⟩, e2⟩
    | none => exact .inr ⟨rfl, .inl ⟨kws, Sum.inl i, rd, rfl, (h2 hl).symm⟩⟩
  · obtain ⟨q, kws, rfl, rd, rl⟩ := p1
    obtain ⟨t, ws, rfl, ht, rt⟩ := p2
    have et : H t = some (.tup ((ns.map Sum.inl).map kV)) := by
      have := fz.le _ _ ht
      rw [rt.ints, keys_V] at this
      exact this
    obtain ⟨h1, h2⟩ := rl.look (i := ns)
    refine ⟨q, rfl, .inr ⟨kws, rd⟩, lookT kvs ns, fun ms e => ?_, ?_⟩
    · have : ns = ms := by
        refine (List.map_inj_right fun x y e => ?_).mp e
        injection e
      rw [this]
    cases hl : lookT kvs ns with
    | some z =>
      obtain ⟨w, e1, e2⟩ := h1 z hl
      exact .inl ⟨z, w, rfl, .inr ⟨kws, _, t, rd, rfl, et, e1.symm⟩, e2⟩
    | none => exact .inr ⟨rfl, .inr ⟨kws, _, t, rd, rfl, et, (h2 hl).symm⟩⟩
theorem dgW_cases {d e : D} {k : D → Prop} (h : dgW d e k) : ((∃ kvs i, d = .dI kvs ∧ e = .int i) ∨ ∃ (kvs : List (List Int × D)) (ns : List Int), d = .dT kvs ∧ e = .tup (ns.map D.int)) ∧ ∀ l : Option D, LkR d e l → ∃ z, l = some z ∧ k z := by
  cases d with
  | dI kvs =>
    cases e with
    | int i =>
      rw [dgW_i] at h
      refine ⟨.inl ⟨kvs, i, rfl, rfl⟩, fun l el => ?_⟩
      subst el
      cases hl : lookI kvs i with
      | none => rw [hl] at h; exact h.elim
      | some z => rw [hl] at h; exact ⟨z, rfl, h⟩
    | _ => exact (show False from h).elim
  | dT kvs =>
    cases e with
    | tup ks =>
      rw [dgW_t] at h
      obtain ⟨ns, rfl, h2⟩ := h
      refine ⟨.inr ⟨kvs, ns, rfl, rfl⟩, fun l el => ?_⟩
      have el := el ns rfl
      subst el
      cases hl : lookT kvs ns with
      | none => rw [hl] at h2; exact h2.elim
      | some z => rw [hl] at h2; exact ⟨z, rfl, h2⟩
    | _ => exact (show False from h).elim
  | _ => cases e <;> exact (show False from h).elim
theorem de_dget (B : Ctx X c EX k) {ta tb : WSr} (ha : DS X c a ta) (hb : DS X c b tb) (hs : NoSl b := by exact fun _ _ => rfl) : DE X c (.Subscript a b pos) (wOp dgW ta tb) := (pe_dget (by have := B.hu; omega) ha hb hs).imp fun σ H Q h => by
  obtain ⟨F, S, R, rp, h, k⟩ := h
  refine ⟨F, S, _, rp, h, fun x S1 v F1 H1 q n1 r1 rx => ⟨F1, S1, _, r1, q, fun y S2 u F2 H2 q n2 r2 ry => ?_⟩⟩
  obtain ⟨d, pd, q⟩ := okV_pk r2 q (rx.mono n2.le)
  obtain ⟨e, pe, q⟩ := okV_pk r2 q ry
  obtain ⟨hc, q⟩ := dgW_cases q
  obtain ⟨p, rfl, _, l, hl, hd⟩ := dget_of r2.fz pd pe hc
  obtain ⟨z, el, q⟩ := q l hl
  rcases hd with ⟨z', w, e1, e2, e3⟩ | ⟨e1, _⟩
  · rw [el] at e1
    cases e1
    exact ⟨p, w, rfl, e2, k z S2 w F2 H2 q (n1.trans n2) r2 e3⟩
  · rw [el] at e1
    cases e1
/-! ### k in d -/
theorem din_cases {d e : D} {k : D → Prop} (h : dinW e d k) : ((∃ kvs i, d = .dI kvs ∧ e = .int i) ∨ ∃ (kvs : List (List Int × D)) (ns : List Int), d = .dT kvs ∧ e = .tup (ns.map D.int)) ∧ ∀ l : Option D, LkR d e l → k (.bl l.isSome) := by
  cases d with
  | dI kvs =>
    cases e with
    | int i =>
      refine ⟨.inl ⟨kvs, i, rfl, rfl⟩, fun l el => ?_⟩
      subst el
      exact h
    | _ => exact (show False from h).elim
  | dT kvs =>
    cases e with
    | tup ks =>
      rw [dinW_t] at h
      obtain ⟨ns, rfl, h2⟩ := h
      refine ⟨.inr ⟨kvs, ns, rfl, rfl⟩, fun l el => ?_⟩
      have el := el ns rfl
      subst el
      exact h2
    | _ => exact (show False from h).elim
  | _ => cases e <;> exact (show False from h).elim
theorem dnin_cases {d e : D} {k : D → Prop} (h : dninW e d k) : ((∃ kvs i, d = .dI kvs ∧ e = .int i) ∨ ∃ (kvs : List (List Int × D)) (ns : List Int), d = .dT kvs ∧ e = .tup (ns.map D.int)) ∧ ∀ l : Option D, LkR d e l → k (.bl (!l.isSome)) := by
  cases d with
  | dI kvs =>
    cases e with
    | int i =>
      refine ⟨.inl ⟨kvs, i, rfl, rfl⟩, fun l el => ?_⟩
      subst el
      exact h
    | _ => exact (show False from h).elim
  | dT kvs =>
    cases e with
    | tup ks =>
      rw [dninW_t] at h
      obtain ⟨ns, rfl, h2⟩ := h
      refine ⟨.inr ⟨kvs, ns, rfl, rfl⟩, fun l el => ?_⟩
      have el := el ns rfl
      subst el
      exact h2
    | _ => exact (show False from h).elim
  | _ => cases e <;> exact (show False from h).elim
theorem din_lift {ta tb : WSr} {σ : Sg} {H : Hp} {Q : VK} (h : LE c (wOp dinW ta tb) σ H Q) : tDIn (LSr c ta) (LSr c tb) σ H Q := by
  obtain ⟨F, S, R, rp, h, k⟩ := h
  refine ⟨F, S, _, rp, h, fun x S1 v F1 H1 q n1 r1 rx => ⟨F1, S1, _, r1, q, fun y S2 u F2 H2 q n2 r2 ry => ?_⟩⟩
  obtain ⟨d, pd, q⟩ := okV_pk r2 q (rx.mono n2.le)
  obtain ⟨e, pe, q⟩ := okV_pk r2 q ry
  obtain ⟨hc, q⟩ := din_cases q
  obtain ⟨p, rfl, _, l, hl, hd⟩ := dget_of r2.fz pe pd hc
  have q := q l hl
  rcases hd with ⟨z', w, e1, e2, e3⟩ | ⟨e1, e2⟩
  · subst e1
    exact ⟨p, _, rfl, e2, k _ S2 _ F2 H2 q (n1.trans n2) r2 rfl⟩
  · subst e1
    exact ⟨p, _, rfl, e2, k _ S2 _ F2 H2 q (n1.trans n2) r2 rfl⟩
theorem dnin_lift {ta tb : WSr} {σ : Sg} {H : Hp} {Q : VK} (h : LE c (wOp dninW ta tb) σ H Q) : tDNotIn (LSr c ta) (LSr c tb) σ H Q := by
  obtain ⟨F, S, R, rp, h, k⟩ := h
  refine ⟨F, S, _, rp, h, fun x S1 v F1 H1 q n1 r1 rx => ⟨F1, S1, _, r1, q, fun y S2 u F2 H2 q n2 r2 ry => ?_⟩⟩
  obtain ⟨d, pd, q⟩ := okV_pk r2 q (rx.mono n2.le)
  obtain ⟨e, pe, q⟩ := okV_pk r2 q ry
  obtain ⟨hc, q⟩ := dnin_cases q
  obtain ⟨p, rfl, _, l, hl, hd⟩ := dget_of r2.fz pe pd hc
  have q := q l hl
  rcases hd with ⟨z', w, e1, e2, e3⟩ | ⟨e1, e2⟩
  · subst e1
    exact ⟨p, _, rfl, e2, k _ S2 _ F2 H2 q (n1.trans n2) r2 rfl⟩
  · subst e1
    exact ⟨p, _, rfl, e2, k _ S2 _ F2 H2 q (n1.trans n2) r2 rfl⟩
theorem de_din (B : Ctx X c EX k) {ta tb : WSr} (ha : DS X c a ta) (hb : DS X c b tb) (h1 : behindInMarks .In b = false := by first | exact nobehind _ (by decide) (by decide) | rfl) : DE X c (.Compare a [.In] [b] pos) (wOp dinW ta tb) := (pe_cmp (pc_din (by have := B.hu; omega) ha hb) h1).imp fun _ _ _ => din_lift
theorem de_dnin (B : Ctx X c EX k) {ta tb : WSr} (ha : DS X c a ta) (hb : DS X c b tb) (h1 : behindInMarks .NotIn b = false := by first | exact nobehind _ (by decide) (by decide) | rfl) : DE X c (.Compare a [.NotIn] [b] pos) (wOp dninW ta tb) := (pe_cmp (pc_dnotin (by have := B.hu; omega) ha hb) h1).imp fun _ _ _ => dnin_lift
theorem dt_din (B : Ctx X c EX k) {ta tb : WSr} (ha : DS X c a ta) (hb : DS X c b tb) (h1 : behindInMarks .In b = false := by first | exact nobehind _ (by decide) (by decide) | rfl) : DT X c (.Compare a [.In] [b] pos) (tBl (wOp dinW ta tb)) := (pt_cmp (pc_din (by have := B.hu; omega) ha hb) h1).imp fun σ H Q h => by
  obtain ⟨F, S, R, rp, h, k⟩ := h
  refine din_lift ⟨F, S, _, rp, h, fun d S1 v F1 H1 q n1 r1 rv => ?_⟩
  obtain ⟨b, _, e, q⟩ := bl_of (R := fun b => R b S1) rv (by cases d <;> exact q)
  exact ⟨b, e, k _ _ _ _ q n1 r1⟩
theorem dt_dnin (B : Ctx X c EX k) {ta tb : WSr} (ha : DS X c a ta) (hb : DS X c b tb) (h1 : behindInMarks .NotIn b = false := by first | exact nobehind _ (by decide) (by decide) | rfl) : DT X c (.Compare a [.NotIn] [b] pos) (tBl (wOp dninW ta tb)) := (pt_cmp (pc_dnotin (by have := B.hu; omega) ha hb) h1).imp fun σ H Q h => by
  obtain ⟨F, S, R, rp, h, k⟩ := h
  refine dnin_lift ⟨F, S, _, rp, h, fun d S1 v F1 H1 q n1 r1 rv => ?_⟩
  obtain ⟨b, _, e, q⟩ := bl_of (R := fun b => R b S1) rv (by cases d <;> exact q)
  exact ⟨b, e, k _ _ _ _ q n1 r1⟩
/-! ### d.get(k, z) -/
theorem dgetW_cases {d e z : D} {k : D → Prop} (h : dgetW d e z k) : ((∃ kvs i, d = .dI kvs ∧ e = .int i) ∨ ∃ (kvs : List (List Int × D)) (ns : List Int), d = .dT kvs ∧ e = .tup (ns.map D.int)) ∧ ∀ l : Option D, LkR d e l → k (l.getD z) := by
  cases d with
  | dI kvs =>
    cases e with
    | int i =>
      refine ⟨.inl ⟨kvs, i, rfl, rfl⟩, fun l el => ?_⟩
      subst el
      exact h
    | _ => exact (show False from h).elim
  | dT kvs =>
    cases e with
    | tup ks =>
      rw [dgetW_t] at h
      obtain ⟨ns, rfl, h2⟩ := h
      refine ⟨.inr ⟨kvs, ns, rfl, rfl⟩, fun l el => ?_⟩
      have el := el ns rfl
      subst el
      exact h2
    | _ => exact (show False from h).elim
  | _ => cases e <;> exact (show False from h).elim
theorem de_get (B : Ctx X c EX k) {ob ek ez : Expr} {apos cpos : Pos} {td tk : WSr} {tx : WE} (hd : DS X c ob td) (hk : DS X c ek tk) (hz : DE X c ez tx) (m1 : attributeBase ob "get" X.env (eval ob X.env) = eval ob X.env := by rfl)
    (m2 : ((backTo cpos (starEach [ek, ez] X.env)).all (fun x => !x.1) && (backToKw cpos (keywordEach [] X.env)).all (fun x => x.1.isSome) && decide (([ek, ez] : List Expr).length + ([] : List Keyword).length + (if ([] : List Keyword).isEmpty then 0 else 1) < 30)) = true := by rfl)
    (m3 : (apos.endLine == cpos.line) = true := by rfl) (m4 : backTo cpos (starEach [ek, ez] X.env) = [(false, eval ek X.env), (false, eval ez X.env)] := by rfl) : DE X c (.Call (.Attribute ob "get" apos) [ek, ez] [] cpos) (wGet td tk tx) := (pe_dget2 (by have := B.hu; omega) hd hk hz ⟨m1, m2, m3, m4⟩).imp fun σ H Q h => by
  obtain ⟨F, S, R, rp, h, k⟩ := h
  rw [wGet_e] at h
  refine ⟨F, S, _, rp, h, fun x S1 v F1 H1 q n1 r1 rx => ?_⟩
  obtain ⟨q0, q⟩ := q
  obtain ⟨d0, pd0, q0⟩ := okV_pk r1 q0 rx
  have isd : ∃ p, v = .ref p ∧ IsD H1 p := by
    cases d0 with
    | dI kvs =>
      obtain ⟨p, kws, e, rd, _⟩ := pd0
      exact ⟨p, e, .inl ⟨kws, rd⟩⟩
    | dT kvs =>
      obtain ⟨p, kws, e, rd, _⟩ := pd0
      exact ⟨p, e, .inr ⟨kws, rd⟩⟩
    | _ => exact (show False from q0).elim
  obtain ⟨p, rfl, isd⟩ := isd
  refine ⟨p, rfl, isd, F1, S1, _, r1, q, fun y S2 u F2 H2 q n2 r2 ry => ⟨F2, S2, _, r2, q, fun z S3 w F3 H3 q n3 r3 rz => ?_⟩⟩
  obtain ⟨d, pd, q⟩ := okV_pk r3 q (rx.mono (n2.le.trans n3.le))
  obtain ⟨e, pe, q⟩ := okV_pk r3 q (ry.mono n3.le)
  obtain ⟨hc, q⟩ := dgetW_cases q
  obtain ⟨p', e', _, l, hl, hd⟩ := dget_of r3.fz pd pe hc
  cases e'
  have q := q l hl
  rcases hd with ⟨z', w', e1, e2, e3⟩ | ⟨e1, e2⟩
  · subst e1
    exact ⟨_, e2, k _ S3 _ F3 H3 q ((n1.trans n2).trans n3) r3 e3⟩
  · subst e1
    exact ⟨_, e2, k _ S3 _ F3 H3 q ((n1.trans n2).trans n3) r3 rz⟩
end
end DL

set_option Elab.async false
set_option linter.all false
set_option maxRecDepth 100000
set_option maxHeartbeats 4000000
/-! New dicts, stores, walks. -/
namespace DL
open PySem PySem.Spec PyProof.Rows L2
section
variable {X : Cx} {c : Cd} {EX : Str → Prop} {k : Nat} {tg a b e : Expr} {es : List Expr} {pos : Pos}
theorem owned_ex {F H : Hp} {S : Sl} {σ : Sg} {p : Addr} (r : Rep c F S σ H) (h : Owned S σ p) : ∃ o, H p = some o ∧ nt o := by
  obtain ⟨i, h, e⟩ := h
  have q := r.slot i
  rcases h with ⟨xs, z⟩ | ⟨xs, z⟩ | ⟨xs, z⟩
  · rw [z] at q
    obtain ⟨p', vs, e1, h1, _⟩ := q
    rw [e] at e1
    cases e1
    exact ⟨_, h1, lst_nt⟩
  · rw [z] at q
    obtain ⟨p', vs, e1, h1, _⟩ := q
    rw [e] at e1
    cases e1
    exact ⟨_, h1, dK_nt⟩
  · rw [z] at q
    obtain ⟨p', vs, e1, h1, _⟩ := q
    rw [e] at e1
    cases e1
    exact ⟨_, h1, dT_nt⟩
theorem not_owned {F H : Hp} {S : Sl} {σ : Sg} {p : Addr} (r : Rep c F S σ H) (hp : H p = none) : ¬ Owned S σ p := fun h => by
  obtain ⟨o, e, _⟩ := owned_ex r h
  rw [hp] at e
  cases e
theorem nn_back {F H : Hp} {S : Sl} {σ : Sg} {p : Addr} (r : Rep c F S σ H) (h : Nn H p) : Nn c.H0 p := Classical.byContradiction fun z => r.keep.dom p z h
theorem own_kind {S : Sl} {i : Nat} {σ : Sg} {p : Addr} (h : OwnAt S σ i p) : i < S.length := getS_lt (by rcases h.1 with ⟨_, z⟩ | ⟨_, z⟩ | ⟨_, z⟩ <;> rw [z] <;> simp)
/-- an object of its own is changed, of whatever kind -/
theorem Rep.mutG {F H : Hp} {S : Sl} {σ : Sg} {i : Nat} {p : Addr} {o o' : HO} {x : SV} (r : Rep c F S σ H) (ho : OwnAt S σ i p) (hH : H p = some o) (t : nt o) (t' : nt o') (nc : ∀ q, o ≠ LamX.CodeO p q) (n1 : F p = none) (n2 : Nn c.H0 p) (n3 : p ≠ c.pr)
    (hx : RepS c.pr F (upd H p o') c.H0 x σ[i]?) : Rep c F (S.set i x) σ (upd H p o') := by
  have hi := own_kind ho
  refine ⟨r.amb0, r.amb.upd hH t nc n3 (r.neps n2), ⟨fun b u hb n tt => ?_, fun b nb => ?_⟩, ⟨fun b u hb => ?_, r.fz.npr, r.fz.ntb⟩, r.gr, fun j => ?_, fun j l q a1 a2 => ?_, by rw [List.length_set]; exact r.len⟩
  · have ne : b ≠ p := fun z => n2 _ (z ▸ hb) tt
    rw [upd_ne ne]
    exact r.keep.kp b u hb n tt
  · by_cases e : b = p
    · subst e
      exact not_nn upd_same t'
    · obtain ⟨u, hu, tt⟩ := nn_ex (r.keep.dom b nb)
      exact not_nn (by rw [upd_ne e]; exact hu) tt
  · have ne : b ≠ p := fun z => by rw [z, n1] at hb; cases hb
    rw [upd_ne ne]
    exact r.fz.le b u hb
  · by_cases hj : i = j
    · subst hj
      rw [getS_set_self hi]
      exact hx
    · rw [getS_set_ne hj]
      have q := r.slot j
      have ne : ∀ {p'}, ((∃ xs, getS S j = .own xs) ∨ (∃ k, getS S j = .ownI k) ∨ ∃ k, getS S j = .ownT k) → σ[j]? = some (some (.ref p')) → p' ≠ p := fun {p'} k1 k2 z => hj (r.apart i j p ho ⟨k1, by rw [k2, z]⟩)
      cases e : getS S j with
      | un => trivial
      | dat d' => rw [e] at q; exact q
      | own ds => rw [e] at q; obtain ⟨p', vs, e1, h1, q⟩ := q; exact ⟨p', vs, e1, by rw [upd_ne (ne (.inl ⟨_, e⟩) e1)]; exact h1, q⟩
      | ownI ds => rw [e] at q; obtain ⟨p', vs, e1, h1, q⟩ := q; exact ⟨p', vs, e1, by rw [upd_ne (ne (.inr (.inl ⟨_, e⟩)) e1)]; exact h1, q⟩
      | ownT ds => rw [e] at q; obtain ⟨p', vs, e1, h1, q⟩ := q; exact ⟨p', vs, e1, by rw [upd_ne (ne (.inr (.inr ⟨_, e⟩)) e1)]; exact h1, q⟩
  · have back : ∀ {j q}, OwnAt (S.set i x) σ j q → OwnAt S σ j q := fun {j q} ⟨h1, h2⟩ => by
      by_cases hj : i = j
      · subst hj
        have e := ho.2
        rw [h2] at e
        cases e
        exact ho
      · rw [getS_set_ne hj] at h1
        exact ⟨h1, h2⟩
    exact r.apart j l q (back a1) (back a2)
theorem ownI_of {F H : Hp} {S : Sl} {σ : Sg} {i : Nat} {ds : List (Int × D)} (r : Rep c F S σ H) (hs : getS S i = .ownI ds) : ∃ p vs, σ[i]? = some (some (.ref p)) ∧ H p = some (.dK vs) ∧ RvI c.pr F ds vs ∧ F p = none ∧ Nn c.H0 p ∧ p ≠ c.pr := by
  have q := r.slot i
  rw [hs] at q
  exact q
theorem ownT_of {F H : Hp} {S : Sl} {σ : Sg} {i : Nat} {ds : List (List Int × D)} (r : Rep c F S σ H) (hs : getS S i = .ownT ds) : ∃ p vs, σ[i]? = some (some (.ref p)) ∧ H p = some (.dT vs) ∧ RvT c.pr F ds vs ∧ F p = none ∧ Nn c.H0 p ∧ p ≠ c.pr := by
  have q := r.slot i
  rw [hs] at q
  exact q
theorem ownIS_ex {x : SV} {k : List (Int × D) → Prop} (h : ownIS x k) : ∃ xs, x = .ownI xs ∧ k xs := by
  cases x with
  | ownI xs => exact ⟨xs, rfl, h⟩
  | _ => exact h.elim
theorem ownTS_ex {x : SV} {k : List (List Int × D) → Prop} (h : ownTS x k) : ∃ xs, x = .ownT xs ∧ k xs := by
  cases x with
  | ownT xs => exact ⟨xs, rfl, h⟩
  | _ => exact h.elim
theorem s_putI {i : Nat} {x : Str} {ek : Expr} {tk t : WE} {p spos : Pos} (hk : DE X c ek tk) (he : DE X c e t) (B : Ctx X c EX k) (hN : X.N[i]? = some x := by rfl) (hv : Vis X.env.scope x := by first | exact Or.inl rfl | exact Or.inr (Or.inl rfl) | exact Or.inr (Or.inr rfl)) (hd : (x == ("__debug__" : Str)) = false := by decide) (hcd : (x == ("__classdict__" : Str)) = false := by decide)
    (hs : swapsWith e (some (.Subscript (.Name x p) ek spos)) pos.line X.env = pure false := by rfl) : DSt X c (.Assign [.Subscript (.Name x p) ek spos] e pos) (sPutI i tk t) := (ps_dput (by have := B.hu; omega) (pe_var hN hv hd hcd) hk he hs).imp fun D σ H h => by
  obtain ⟨F, S, E, r, h, k⟩ := h
  rw [sPutI_e] at h
  refine ⟨F, S, _, r, h, fun d S1 v F1 H1 q n1 r1 rv => ?_⟩
  obtain ⟨ds, es, q⟩ := ownIS_ex q
  obtain ⟨q0, vs, e1, hH, _⟩ := ownI_of r1 es
  refine ⟨.ref q0, e1, F1, S1, _, r1, q, fun dk S2 vk F2 H2 q n2 r2 rk => ?_⟩
  obtain ⟨ds2, es2, q⟩ := ownIS_ex q
  obtain ⟨p1, ws, e2, hH2, rl, m1, m2, m3⟩ := ownI_of r2 es2
  rw [e1] at e2
  cases e2
  cases dk with
  | int j =>
    obtain ⟨lt, q⟩ := q
    have ek : vk = .int j := rk
    subst ek
    exact ⟨_, _, rfl, .inl ⟨ws, Sum.inl j, hH2, rfl, by rw [rl.length]; exact line_lt (by omega), rfl⟩, k.nx F2 _ σ _ (n1.le.trans n2.le) (r2.mutG (x := .ownI (putD ds2 j d)) ⟨.inr (.inl ⟨_, es2⟩), e1⟩ hH2 dK_nt dK_nt (fun q => dK_nc q) m1 m2 m3 ⟨_, _, e1, upd_same, rl.put (Rv.mono n2.le _ _ rv), m1, m2, m3⟩) q⟩
  | _ => exact (show False from q).elim
theorem s_putT {i : Nat} {x : Str} {ek : Expr} {tk t : WE} {p spos : Pos} (hk : DE X c ek tk) (he : DE X c e t) (B : Ctx X c EX k) (hN : X.N[i]? = some x := by rfl) (hv : Vis X.env.scope x := by first | exact Or.inl rfl | exact Or.inr (Or.inl rfl) | exact Or.inr (Or.inr rfl)) (hd : (x == ("__debug__" : Str)) = false := by decide) (hcd : (x == ("__classdict__" : Str)) = false := by decide)
    (hs : swapsWith e (some (.Subscript (.Name x p) ek spos)) pos.line X.env = pure false := by rfl) : DSt X c (.Assign [.Subscript (.Name x p) ek spos] e pos) (sPutT i tk t) := (ps_dput (by have := B.hu; omega) (pe_var hN hv hd hcd) hk he hs).imp fun D σ H h => by
  obtain ⟨F, S, E, r, h, k⟩ := h
  rw [sPutT_e] at h
  refine ⟨F, S, _, r, h, fun d S1 v F1 H1 q n1 r1 rv => ?_⟩
  obtain ⟨ds, es, q⟩ := ownTS_ex q
  obtain ⟨q0, vs, e1, hH, _⟩ := ownT_of r1 es
  refine ⟨.ref q0, e1, F1, S1, _, r1, q, fun dk S2 vk F2 H2 q n2 r2 rk => ?_⟩
  obtain ⟨ds2, es2, q⟩ := ownTS_ex q
  obtain ⟨p1, ws, e2, hH2, rl, m1, m2, m3⟩ := ownT_of r2 es2
  rw [e1] at e2
  cases e2
  cases dk with
  | tup ks =>
    obtain ⟨ns, rfl, lt, q⟩ := q
    obtain ⟨t, us, rfl, ht, rt⟩ := rk
    have et := r2.fz.le _ _ ht
    rw [rt.ints, keys_V] at et
    exact ⟨_, _, rfl, .inr ⟨ws, ns.map Sum.inl, t, hH2, rfl, et, by rw [rl.length]; exact line_lt (by omega), rfl⟩, k.nx F2 _ σ _ (n1.le.trans n2.le) (r2.mutG (x := .ownT (putD ds2 ns d)) ⟨.inr (.inr ⟨_, es2⟩), e1⟩ hH2 dT_nt dT_nt (fun q => dT_nc q) m1 m2 m3 ⟨_, _, e1, upd_same, rl.put (Rv.mono n2.le _ _ rv), m1, m2, m3⟩) q⟩
  | _ => exact (show False from q).elim
/-! ### new dicts -/
def NewD (c : Cd) (S' : Sl) (σ : Sg) (F' H H' : Hp) (ds : List (Int × D)) (p : Addr) : Prop := ∃ vs, H' p = some (.dK vs) ∧ RvI c.pr F' ds vs ∧ F' p = none ∧ Nn H p ∧ Nn c.H0 p ∧ p ≠ c.pr ∧ ¬ Owned S' σ p
def LDI (c : Cd) (t : WDI) : TE := fun σ H Q => ∃ F S R, Rep c F S σ H ∧ t S R ∧ ∀ ds S' p F' H', R ds S' → Nx c.pr S σ F H S' F' H' → Rep c F' S' σ H' → NewD c S' σ F' H H' ds p → Q (.ref p) H'
abbrev DFi (X : Cx) (c : Cd) (e : Expr) (t : WDI) : Prop := PE X e (LDI c t)
/-- an object that is nobody's yet -/
theorem Rep.newU {F H : Hp} {S : Sl} {σ : Sg} {p : Addr} {o : HO} (r : Rep c F S σ H) (hp : H p = none) (t : nt o) : Nx c.pr S σ F H S F (upd H p o) ∧ Rep c F S σ (upd H p o) ∧ F p = none ∧ Nn c.H0 p ∧ p ≠ c.pr ∧ ¬ Owned S σ p := by
  have le : Le H (upd H p o) := fun b u e => by rw [upd_ne (ne_of_none e hp)]; exact e
  have fp : F p = none := by
    cases e : F p with
    | none => rfl
    | some u => have := r.fz.le _ _ e; rw [hp] at this; cases this
  exact ⟨.grow le (.refl _ _), r.grow le (.refl _ _) ⟨fun b u e => le b u (r.fz.le b u e), r.fz.npr, r.fz.ntb⟩, fp, nn_back r (.none hp), r.nepr hp, not_owned r hp⟩
/-- an object that is nobody's is changed, or shared -/
theorem Rep.updN {F H : Hp} {S : Sl} {σ : Sg} {p : Addr} {o o' : HO} (r : Rep c F S σ H) (h : H p = some o) (t : nt o) (t' : nt o') (nc : ∀ q, o ≠ LamX.CodeO p q) (n1 : F p = none) (n2 : Nn c.H0 p) (n3 : p ≠ c.pr) (n4 : ¬ Owned S σ p) : Rep c F S σ (upd H p o') := by
  refine ⟨r.amb0, r.amb.upd h t nc n3 (r.neps n2), ⟨fun b u hb n tt => ?_, fun b nb => ?_⟩, ⟨fun b u hb => ?_, r.fz.npr, r.fz.ntb⟩, r.gr, fun j => ?_, r.apart, r.len⟩
  · have ne : b ≠ p := fun z => n2 _ (z ▸ hb) tt
    rw [upd_ne ne]
    exact r.keep.kp b u hb n tt
  · by_cases e : b = p
    · subst e
      exact not_nn upd_same t'
    · obtain ⟨u, hu, tt⟩ := nn_ex (r.keep.dom b nb)
      exact not_nn (by rw [upd_ne e]; exact hu) tt
  · have ne : b ≠ p := fun z => by rw [z, n1] at hb; cases hb
    rw [upd_ne ne]
    exact r.fz.le b u hb
  · have q := r.slot j
    have ne : ∀ {p'}, ((∃ xs, getS S j = .own xs) ∨ (∃ k, getS S j = .ownI k) ∨ ∃ k, getS S j = .ownT k) → σ[j]? = some (some (.ref p')) → p' ≠ p := fun {p'} k1 k2 z => n4 ⟨j, k1, by rw [k2, z]⟩
    cases e : getS S j with
    | un => trivial
    | dat d' => rw [e] at q; exact q
    | own ds => rw [e] at q; obtain ⟨p', vs, e1, h1, q⟩ := q; exact ⟨p', vs, e1, by rw [upd_ne (ne (.inl ⟨_, e⟩) e1)]; exact h1, q⟩
    | ownI ds => rw [e] at q; obtain ⟨p', vs, e1, h1, q⟩ := q; exact ⟨p', vs, e1, by rw [upd_ne (ne (.inr (.inl ⟨_, e⟩)) e1)]; exact h1, q⟩
    | ownT ds => rw [e] at q; obtain ⟨p', vs, e1, h1, q⟩ := q; exact ⟨p', vs, e1, by rw [upd_ne (ne (.inr (.inr ⟨_, e⟩)) e1)]; exact h1, q⟩
theorem Rep.shareN {F H : Hp} {S : Sl} {σ : Sg} {p : Addr} {o' : HO} (r : Rep c F S σ H) (h : H p = some o') (t' : nt o') (n1 : F p = none) (n2 : Nn c.H0 p) (n3 : p ≠ c.pr) (n4 : ¬ Owned S σ p) : Rep c (upd F p o') S σ H := by
  have le : Le F (upd F p o') := fun b u e => by rw [upd_ne (ne_of_none e n1)]; exact e
  refine ⟨r.amb0, r.amb, r.keep, ⟨fun b u e => ?_, by rw [upd_ne (Ne.symm n3)]; exact r.fz.npr, fun b u e => ?_⟩, ⟨r.gr.le.trans le, fun b hb => ?_⟩, fun j => ?_, r.apart, r.len⟩
  · by_cases hp : b = p
    · subst hp
      rw [upd_same] at e
      cases e
      exact h
    · rw [upd_ne hp] at e
      exact r.fz.le _ _ e
  · by_cases hp : b = p
    · subst hp
      rw [upd_same] at e
      cases e
      exact t'
    · rw [upd_ne hp] at e
      exact r.fz.ntb _ _ e
  · by_cases hp : b = p
    · subst hp
      exact .inr n2
    · rw [upd_ne hp] at hb
      exact r.gr.new b hb
  · have q := r.slot j
    have ne : ∀ {p'}, ((∃ xs, getS S j = .own xs) ∨ (∃ k, getS S j = .ownI k) ∨ ∃ k, getS S j = .ownT k) → σ[j]? = some (some (.ref p')) → p' ≠ p := fun {p'} k1 k2 z => n4 ⟨j, k1, by rw [k2, z]⟩
    cases e : getS S j with
    | un => trivial
    | dat d' => rw [e] at q; obtain ⟨v, e1, q⟩ := q; exact ⟨v, e1, Rv.mono le _ _ q⟩
    | own ds => rw [e] at q; obtain ⟨p', vs, e1, h1, q, m1, m2⟩ := q; exact ⟨p', vs, e1, h1, RvL.mono le _ _ q, by rw [upd_ne (ne (.inl ⟨_, e⟩) e1)]; exact m1, m2⟩
    | ownI ds => rw [e] at q; obtain ⟨p', vs, e1, h1, q, m1, m2⟩ := q; exact ⟨p', vs, e1, h1, RvI.mono le _ _ q, by rw [upd_ne (ne (.inr (.inl ⟨_, e⟩)) e1)]; exact m1, m2⟩
    | ownT ds => rw [e] at q; obtain ⟨p', vs, e1, h1, q, m1, m2⟩ := q; exact ⟨p', vs, e1, h1, RvT.mono le _ _ q, by rw [upd_ne (ne (.inr (.inr ⟨_, e⟩)) e1)]; exact m1, m2⟩
theorem dd_new : DFi X c (.Dict [] [] pos) wNewI := pe_dnewK.imp fun σ H Q h => by
  obtain ⟨F, S, R, rp, h, k⟩ := h
  intro p hp
  obtain ⟨n1, r1, m1, m2, m3, m4⟩ := rp.newU (o := .dK []) hp dK_nt
  exact k [] S p F _ h n1 r1 ⟨[], upd_same, rfl, m1, .none hp, m2, m3, m4⟩
theorem dn_newT : DN X c (.Dict [] [] pos) wNewT := pe_dnewT.imp fun σ H Q h => by
  obtain ⟨F, S, R, rp, h, k⟩ := h
  intro p hp
  obtain ⟨n1, r1, m1, m2, m3, m4⟩ := rp.newU (o := .dT []) hp dT_nt
  exact k _ S _ F _ h n1 r1 ⟨⟨p, [], rfl, upd_same, rfl, m1, m2, m3⟩, fun p' e => by cases e; exact ⟨.none hp, m4⟩⟩
theorem dd_copy {p : Pos} {ta : WSr} (ha : DS X c e ta) (hm : X.mg "dict" = none) (hg : Gl X "dict" := by rfl) (he : starEach (e :: []) X.env = (false, eval e X.env) :: starEach [] X.env := by rfl) (hpl : (backTo pos (starEach [] X.env)).any (·.1) = false := by rfl) :
    DFi X c (.Call (.Name "dict" p) [e] [] pos) (wCopyI ta) := (pe_callTy call_dictD hg hm (by decide +kernel) (dss_cons ha dss_nil he) (by decide) (by decide) he hpl).imp fun σ H Q h => by
  obtain ⟨F, S, R, rp, h, k⟩ := h
  rw [wCopyI_e] at h
  refine ⟨F, S, fun xs S1 => ∃ x, xs = [x] ∧ okV S1 x fun d => dIS d fun kvs => R kvs S1, rp, ?_, fun xs S1 vs F1 H1 q n1 r1 rx => ?_⟩
  · show ta S fun x S1 => wSs0 S1 fun xs S2 => _
    have mono : (fun (x : Src) (S1 : Sl) => okV S1 x fun d => dIS d fun kvs => R kvs S1) = fun x S1 => wSs0 S1 fun xs S2 => ∃ y, x :: xs = [y] ∧ okV S2 y fun d => dIS d fun kvs => R kvs S2 := by
      funext x S1
      refine propext ⟨fun w => ⟨x, rfl, w⟩, fun ⟨y, e, w⟩ => ?_⟩
      cases e
      exact w
    rw [← mono]
    exact h
  · obtain ⟨x, rfl, q⟩ := q
    obtain ⟨v, t, rfl, rx, e⟩ := rx
    have e : t = [] := e
    subst e
    obtain ⟨d, pd, q⟩ := okV_pk r1 q rx
    cases d with
    | dI kvs =>
      obtain ⟨a, kws, rfl, rd, rl⟩ := pd
      refine ⟨a, kws, rfl, rd, fun p hp => ?_⟩
      obtain ⟨n2, r2, m1, m2, m3, m4⟩ := r1.newU (o := .dK kws) hp dK_nt
      exact k kvs S1 p F1 _ q (n1.trans n2) r2 ⟨kws, upd_same, rl, m1, Classical.byContradiction fun z => n1.dom p z (.none hp), m2, m3, m4⟩
    | _ => exact (show False from q).elim
theorem dd_disp1 {ek ev : Expr} {tk tv : WE} (hk : DE X c ek tk) (hv : DE X c ev tv) : DFi X c (.Dict [some ek] [ev] pos) (wDisp1 tk tv) := (pe_disp (pps_cons hk hv pps_nil) rfl rfl (by simp) (by simp)).imp fun σ H Q h => by
  obtain ⟨F, S, R, rp, h, k⟩ := h
  intro p hp
  obtain ⟨n0, r0, m1, m2, m3, m4⟩ := rp.newU (o := .dK []) hp dK_nt
  refine ⟨F, S, _, r0, h, fun a S1 v F1 H1 q n1 r1 rv => ⟨F1, S1, _, r1, q, fun b S2 w F2 H2 q n2 r2 rw' => ?_⟩⟩
  cases a with
  | int i =>
    have ev : v = .int i := rv
    subst ev
    have n := (n0.trans n1).trans n2
    have h1 : H1 p = some (.dK []) := n1.kp p _ upd_same m3 dK_nt m4
    have h2 : H2 p = some (.dK []) := n2.kp p _ h1 m3 dK_nt fun z => m4 (n1.own p z)
    have f2 : F2 p = none := by
      cases e : F2 p with
      | none => rfl
      | some u =>
        rcases n.new p (by rw [e]; simp) with z | z | z
        · exact absurd m1 z
        · exact absurd e (by
            rcases n2.new p (by rw [e]; simp) with y | y | y
            · rcases n1.new p y with x | x | x
              · exact absurd m1 x
              · exact absurd x (not_nn upd_same dK_nt)
              · exact absurd x m4
            · exact absurd y (not_nn h1 dK_nt)
            · exact absurd (n1.own p y) m4)
        · exact absurd z m4
    have o2 : ¬ Owned S2 σ p := fun z => m4 (n1.own p (n2.own p z))
    refine ⟨h2, [(Sum.inl i, w)], rfl, by simp, ?_⟩
    refine k [(i, b)] S2 p F2 _ q ⟨n.le, fun b u e np t nw => ?_, fun b hb => ?_, n.new, n.own⟩ (r2.updN h2 dK_nt dK_nt (fun q => dK_nc q) f2 m2 m3 o2) ⟨_, upd_same, ⟨w, [], rfl, rw', rfl⟩, f2, .none hp, m2, m3, o2⟩
    · rw [upd_ne (ne_of_none e hp)]
      exact n.kp b u e np t nw
    · by_cases z : b = p
      · subst z
        exact not_nn upd_same dK_nt
      · obtain ⟨u, hu, tt⟩ := nn_ex (n.dom b hb)
        exact not_nn (by rw [upd_ne z]; exact hu) tt
  | _ => exact (show False from q).elim
theorem dn_oI {t : WDI} (h : DFi X c e t) : DN X c e (wNoI t) := h.imp fun σ H Q h => by
  obtain ⟨F, S, R, rp, h, k⟩ := h
  refine ⟨F, S, _, rp, h, fun ds S1 p F1 H1 q n1 r1 nl => ?_⟩
  obtain ⟨vs, h1, rl, n2, n3, n4, n5, n6⟩ := nl
  exact k _ S1 _ F1 H1 q n1 r1 ⟨⟨p, vs, rfl, h1, rl, n2, n4, n5⟩, fun p' e => by cases e; exact ⟨n3, n6⟩⟩
/-- a new dict, shared: nobody changes it from then on -/
theorem de_frI {t : WDI} (h : DFi X c e t) : DE X c e (wFzI t) := ⟨fun pins s σ H Q I hw => by
  obtain ⟨F, S, R, rp, hw, k⟩ := hw
  refine thn (h.run pins s σ H (fun v H1 => ∃ ds S1 p F1, v = .ref p ∧ R (.dI ds) S1 ∧ Nx c.pr S σ F H S1 F1 H1 ∧ Rep c F1 S1 σ H1 ∧ NewD c S1 σ F1 H H1 ds p) I ⟨F, S, _, rp, hw, fun ds S1 p F1 H1 q n1 r1 nl => ⟨ds, S1, p, F1, rfl, q, n1, r1, nl⟩⟩) fun u s1 ⟨v, H1, I1, rv, ds, S1, p, F1, ev, q, n1, r1, nl⟩ => ?_
  subst ev
  obtain ⟨vs, h1, rl, n2, n3, n4, n5, n6⟩ := nl
  obtain ⟨od, I2⟩ := I1.lock h1 trivial
  have le : Le F1 (upd F1 p (.frz od (.dK vs))) := fun b u e => by rw [upd_ne (ne_of_none e n2)]; exact e
  have r2 := r1.updN (o' := .frz od (.dK vs)) h1 dK_nt frz_nt (fun q => dK_nc q) n2 n4 n5 n6
  have r3 := r2.shareN (o' := .frz od (.dK vs)) upd_same frz_nt n2 n4 n5 n6
  refine ⟨_, _, I2, rv, k _ S1 _ _ _ q ⟨n1.le.trans le, fun b u e np t nw => ?_, fun b hb => ?_, fun b hb => ?_, n1.own⟩ r3 ⟨p, od, vs, rfl, upd_same, RvI.mono le _ _ rl⟩⟩
  · have z : b ≠ p := fun z => n3 u (z ▸ e) t
    rw [upd_ne z]
    exact n1.kp b u e np t nw
  · by_cases z : b = p
    · subst z
      exact not_nn upd_same frz_nt
    · obtain ⟨u, hu, tt⟩ := nn_ex (n1.dom b hb)
      exact not_nn (by rw [upd_ne z]; exact hu) tt
  · by_cases z : b = p
    · subst z
      exact .inr (.inl n3)
    · rw [upd_ne z] at hb
      exact n1.new b hb⟩
/-! ### walks -/
theorem wk_keys {F1 : Hp} {S1 : Sl} {σ : Sg} {p : Addr} {o : Obj} {kvs : List (Int × D)} {kws : List (Key × V)} (hF : F1 p = some (.frz o (.dK kws))) (rl : RvI c.pr F1 kvs kws) : Wk c F1 S1 σ [] (Itk p o kws) (kvs.map fun q => D.int q.1) := by
  refine ⟨fun F' H' => H' p = some (.frz o (.dK kws)), fun F' H' S2 σ2 l r ag => r.fz.le _ _ (l _ _ hF), fun i F' H' hi g => ⟨g, ?_⟩, fun F' H' g => ⟨g, ?_⟩, fun i F' H' y H'' hi g fz np yl => ?_⟩
  · rw [rl.length]
    rwa [List.length_map] at hi
  · rw [rl.length, List.length_map]
    exact Nat.le_refl _
  · obtain ⟨e1, k, v, e2, e3⟩ := yl
    subst e1 e3
    rw [List.length_map] at hi
    have hk := congrArg (fun l : List Key => l[i]?) rl.keys
    have e4 : (kws.map (·.1))[i]? = some k := by rw [List.getElem?_map, e2]; rfl
    have e5 : ((kvs.map (·.1)).map (Sum.inl : Int → Key))[i]? = some (Sum.inl (kvs[i]).1) := by rw [List.getElem?_map, List.getElem?_map, List.getElem?_eq_getElem hi]; rfl
    have hk : (kws.map (·.1))[i]? = ((kvs.map (·.1)).map (Sum.inl : Int → Key))[i]? := hk
    rw [e4, e5] at hk
    cases hk
    exact ⟨F', .int (kvs[i]).1, by rw [List.getElem?_map, List.getElem?_eq_getElem hi]; rfl, .refl _, .refl _ _, fz, rfl⟩
theorem di_keys {t : WE} (h : DE X c e t) : DI X c tg e (iDk t) := (pi_keys h).imp fun σ H R h => by
  obtain ⟨F, S, R0, rp, h, k⟩ := h
  rw [iDk_e] at h
  refine ⟨F, S, _, rp, h, fun d S1 v F1 H1 q n1 r1 rv => ?_⟩
  cases d with
  | dI kvs =>
    obtain ⟨q1, q⟩ := (show kvs.length ≤ 1000000 ∧ _ from q)
    obtain ⟨p, o, kws, rfl, hF, rl⟩ := rv
    exact ⟨p, o, rfl, .inl ⟨kws, r1.fz.le _ _ hF, k [] _ S1 _ F1 H1 q n1 r1 (wk_keys hF rl) (by rw [List.length_map]; exact line_le q1)⟩⟩
  | _ => exact (show False from q).elim
end
end DL

set_option Elab.async false
set_option linter.all false
set_option maxRecDepth 100000
set_option maxHeartbeats 4000000
/-! sorted of a dict, of any size; xs.index; a new list by a test. -/
namespace DL
open PySem PySem.Spec PyProof.Rows L2
section
variable {X : Cx} {c : Cd} {EX : Str → Prop} {k : Nat} {tg a b e : Expr} {es : List Expr} {pos : Pos}
theorem keys_ints {ks : List Int} {acc : List Value} {κs : List Key} (hκ : κs = ks.map Sum.inl) (hal : acc.length = ks.length) (hacc : ∀ (j : Nat) (v : Value), acc[j]? = some v → ∃ κ, κs[j]? = some κ ∧ keyIs κ v = true) : IntsAre acc ks := by
  refine ints_each hal fun j v e => ?_
  obtain ⟨κ, e1, e2⟩ := hacc j v e
  rw [hκ, List.getElem?_map] at e1
  cases e4 : ks[j]? with
  | none => rw [e4] at e1; cases e1
  | some y =>
    rw [e4] at e1
    cases e1
    rcases keyIs_shape e2 with ⟨i, t, e5, e6⟩ | ⟨z, t, e5, e6⟩
    · cases e5
      exact ⟨y, t, rfl, e6⟩
    · cases e5
theorem call_sortedDX (hcalm : X.calm = true) : CallR X (.builtin "sorted") (fun xs H Q => ∃ (q : Addr) (kws : List (Key × V)) (ks : List Int), xs = [.ref q] ∧ Rd H q (.dK kws) ∧ kws.map (·.1) = ks.map Sum.inl ∧
    ∀ (ys : List Int) (p : Addr), ys.Perm ks → ys.Pairwise (· ≤ ·) → H p = none → Q (.ref p) (upd H p (.lst (ys.map V.int)))) := by
  intro pins s σ H xs us Q I r w0
  obtain ⟨q, kws, ks, rfl, hd, hks, w1⟩ := w0
  obtain ⟨u, rfl, rx⟩ := vals1 r
  cases rx
  obtain ⟨z, lo, vs, rel, dd⟩ := dk_rd I.hok hd
  obtain ⟨ep, hat⟩ := dd.dictAt
  have hkeys := rel.keys.symm.trans hks
  have hl := congrArg List.length hkeys
  rw [List.length_map, List.length_map] at hl
  have h16 : vs.length ≤ sizeLine := by rw [← rel.length]; exact z
  refine Calls.call_function_entry kind_sorted plain_sorted entry_sorted (args_sorted1 _) ?_
  unfold Builtin.«sorted»
  refine wpAny_bind (m := checkCount "sorted" 1 1 _) (wpAny_pure ?_)
  refine wpAny_bind (PySem.W.kdu_collect (A := X.A.in1) (PySem.W.kdl_dict (knd := mixKind X.prog X.w) (kvs := vs) (ep := ep) lo) (I.ok.hd hcalm) hat h16 fun g tk acc hk hacc => ?_)
  have hal : acc.toList.length = ks.length := by rw [Array.length_toList, hacc.1, hl]
  have hS : IntsAre acc.toList ks := keys_ints (κs := vs.map (·.1)) hkeys hal fun j v ev => by
    obtain ⟨κ, x, e1, e2⟩ := hacc.2 j v (by rw [← Array.getElem?_toList]; exact ev)
    exact ⟨κ, by rw [List.getElem?_map, e1]; rfl, e2⟩
  have I1 : Inv X pins σ H { s with heap := g, toks := tk } := I.kept hk
  have hz : acc.toList.length ≤ sizeLine := by rw [hal, ← hl]; exact h16
  refine wpAny_bind (wpAny_newList ?_ hz)
  have hoL : (g.push (seqObj "list" acc.toList.toArray 0)).get? g.objs.size = some (seqObj "list" acc.toList.toArray 0) := Heap.get?_push_size _ rfl
  show wpAny _ _ _ _ _ { s with heap := g.push (seqObj "list" acc.toList.toArray 0), toks := tk }
  refine wpAny_bind (wpAny_holding (wpAny_call_entry slot_list_sort ⟨_, hoL, rfl⟩ entry_list_sort
    (SrtO.list_sort_ord (s := { s with heap := g.push (seqObj "list" acc.toList.toArray 0), toks := tk }) SrtO.swo_int hoL hz (fun h2 => SrtO.ints_sortable hS h2) fun out g1 g2 => ⟨_, rfl, ?_⟩) (args_list_sort _)))
  obtain ⟨k1, k2, k3⟩ := SrtO.ints_out hS g1 g2
  obtain ⟨ep', he'⟩ := sortedHeap_at (vs := acc.toList) (out := out.toArray) hoL
  have hlen : ((out.map SrtO.iv).map V.int).length ≤ sizeLine := by
    rw [List.length_map, k2.length_eq, ← hal]
    exact hz
  refine wpAny_pure ⟨_, rfl, .ref g.objs.size, upd H g.objs.size (.lst ((out.map SrtO.iv).map V.int)), I1.laid (t' := tk) (fun b u eb => ?_) (Nat.le_refl _)
    (show ObjOk X.prog X.w _ _ _ (.lst ((out.map SrtO.iv).map V.int)) from ⟨hlen, out, ep', vals_of_ints k1, he'⟩), rfl, w1 _ _ k2 k3 (I1.hok.fresh (Nat.le_refl _))⟩
  have hb : b < g.objs.size := Heap.lt_size eb
  rw [sortedHeap_old (Nat.ne_of_lt hb) (by rw [size_push']; exact Nat.lt_succ_of_lt hb)]
  exact Heap.get?_push_of_some _ eb
theorem b_sortedD (hcalm : X.calm = true) : CallR X (.builtin "sorted") (LNl c sorted1D) := CallR.imp (call_sortedDX hcalm) fun xs H Q h => by
  obtain ⟨F, ds, R, fz, p, q, k⟩ := h
  match ds, q with
  | [.dI kvs], q =>
    obtain ⟨v, rfl, p1⟩ := pks1 p
    obtain ⟨a, kws, rfl, rd, rl⟩ := p1
    exact ⟨a, kws, kvs.map (·.1), rfl, rd, rl.keys, fun ys p h1 h2 hp => k _ _ _ (q ys h1 h2) hp RvL.ofInts⟩
theorem eqV_int (i j : Int) : eqV (.int i) (.int j) = (i == j) := rfl
theorem de_index {ob ei : Expr} {apos cpos : Pos} {ta tb : WSr} (ha : DS X c ob ta) (hb : DS X c ei tb) (hbase : attributeBase ob "index" X.env (eval ob X.env) = eval ob X.env := by rfl)
    (hfew : ((backTo cpos (starEach (ei :: []) X.env)).all (fun x => !x.1) && (backToKw cpos (keywordEach [] X.env)).all (fun x => x.1.isSome) && decide ((ei :: []).length + ([] : List Keyword).length + (if ([] : List Keyword).isEmpty then 0 else 1) < 30)) = true := by rfl)
    (hline : (apos.endLine == cpos.line) = true := by rfl) (hs : starEach (ei :: []) X.env = (false, eval ei X.env) :: starEach [] X.env := by rfl) (hplain : (backTo cpos (starEach [] X.env)).any (·.1) = false := by rfl) :
    DE X c (.Call (.Attribute ob "index" apos) [ei] [] cpos) (wIdx ta tb) := (pe_bm PySem.F.plainAttrs_list PySem.F.slot_list_index PySem.F.type_list_index mt_index ha (pa_cons hb pa_nil hs) hbase hfew hline hs hplain).imp fun σ H Q h => by
  obtain ⟨F, S, R, rp, h, k⟩ := h
  rw [wIdx_e] at h
  refine ⟨F, S, _, rp, h, fun x S1 v F1 H1 q n1 r1 rx => ?_⟩
  obtain ⟨q0, q⟩ := q
  obtain ⟨d0, pd0, q0⟩ := okV_pk r1 q0 rx
  cases d0 with
  | lst xs0 =>
    obtain ⟨p, vs, rfl, h1, _⟩ := pd0
    refine ⟨.inl ⟨rfl, vs, .inl (.inl h1)⟩, F1, S1, _, r1, q, fun y S2 u F2 H2 q n2 r2 ry => ?_⟩
    obtain ⟨d, pd, q⟩ := okV_pk r2 q (rx.mono n2.le)
    obtain ⟨e, pe, q⟩ := okV_pk r2 q ry
    cases d with
    | lst xs =>
      cases e with
      | int i =>
        obtain ⟨ns, j, rfl, hj, hm, q⟩ := q
        have eu : u = .int i := pe
        subst eu
        obtain ⟨p', ws, e', h2, rl⟩ := pd
        cases e'
        have ew := rl.ints
        subst ew
        refine ⟨p, _, .int i, j, .int i, rfl, rfl, .inl (.inl h2), rfl, ?_, by rw [List.getElem?_map, hj]; rfl, by rw [eqV_int]; simp, fun m z' ml hz => ?_, k _ S2 _ F2 H2 q (n1.trans n2) r2 rfl⟩
        · rw [List.all_eq_true]
          intro z hz
          obtain ⟨n, _, rfl⟩ := List.mem_map.mp hz
          rfl
        · rw [List.getElem?_map] at hz
          cases en : ns[m]? with
          | none => rw [en] at hz; cases hz
          | some n =>
            rw [en] at hz
            cases hz
            have := hm m ml
            rw [en] at this
            rw [eqV_int]
            exact beq_eq_false_iff_ne.mpr fun z => this (by rw [z])
      | _ => exact (show False from q).elim
    | _ => cases e <;> exact (show False from q).elim
  | _ => exact (show False from q0).elim
/-- a new list by a test -/
theorem dl_if {t : WT} {u w : WL} {d : Expr} (h : DT X c d t) (ha : DFr X c a u) (hb : DFr X c b w) : DFr X c (.IfExp d a b pos) (wIfL t u w) := (pe_ifExp h ha hb).imp fun σ H Q h => by
  obtain ⟨F, S, R, rp, h, k⟩ := h
  rw [wIfL_e] at h
  have back : ∀ {S1 S2 : Sl} {F1 F2 H1 H2 : Hp} {ds : List D} {p : Addr}, Nx c.pr S σ F H S1 F1 H1 → NewL c S2 σ F2 H1 H2 ds p → NewL c S2 σ F2 H H2 ds p := fun n ⟨vs, h1, h2, h3, h4, h5⟩ => ⟨vs, h1, h2, h3, Classical.byContradiction fun z => n.dom _ z h4, h5⟩
  refine ⟨F, S, _, rp, h, fun t S1 F1 H1 q n1 r1 => ?_⟩
  cases t with
  | true => exact iteT ⟨F1, S1, _, r1, ifT q, fun ds S2 p F2 H2 q n2 r2 nl => k _ _ _ _ _ q (n1.trans n2) r2 (back n1 nl)⟩
  | false => exact iteF ⟨F1, S1, _, r1, ifF q, fun ds S2 p F2 H2 q n2 r2 nl => k _ _ _ _ _ q (n1.trans n2) r2 (back n1 nl)⟩
end
end DL

set_option Elab.async false
set_option linter.all false
set_option maxRecDepth 100000
set_option maxHeartbeats 4000000
/-! a, b = e, f through a tuple; lists that are changed under several names; a list of one's own lent to a def. -/
namespace DL
open PySem PySem.Spec PyProof.Rows L2
section
variable {X : Cx} {c : Cd} {EX : Str → Prop} {k : Nat} {tg a b e : Expr} {es : List Expr} {pos : Pos}
theorem s_parT2 {i j : Nat} {x y : Str} {ta tb : WN} {px py pt : Pos} {kt k2 pt2} (B : Ctx X c EX k) (ha : DN X c a ta) (hb : DN X c b tb) (hi : X.N[i]? = some x := by rfl) (hj : X.N[j]? = some y := by rfl) (hx : Loc X.env.scope x := by first | exact Or.inl rfl | exact Or.inr rfl) (hy : Loc X.env.scope y := by first | exact Or.inl rfl | exact Or.inr rfl)
    (fx : X.fn x = true ∨ X.env.scope.names.lookup x = some .local := by first | exact .inl rfl | exact .inr rfl) (fy : X.fn y = true ∨ X.env.scope.names.lookup y = some .local := by first | exact .inl rfl | exact .inr rfl)
    (hs : swapsWithSole [.Tuple [.Name x px, .Name y py] kt pt] (.Tuple [a, b] k2 pt2) pos.line X.env = pure false := by rfl) (hw : swappedStores [.Tuple [.Name x px, .Name y py] kt pt] (.Tuple [a, b] k2 pt2) X.env = pure none := by rfl) (h1 : (assignEach [.Tuple [.Name x px, .Name y py] kt pt] X.env).map (·.2) = [assign (.Tuple [.Name x px, .Name y py] kt pt) X.env] := by rfl)
    (hn : (assignEach [.Name x px, .Name y py] X.env).length = 2 := by rfl) (hst : (assignEach [.Name x px, .Name y py] X.env).findIdx? (·.1) = none := by rfl) (s1 : (assignEach (.Name x px :: [.Name y py]) X.env).map (·.2) = assign (.Name x px) X.env :: (assignEach [.Name y py] X.env).map (·.2) := by rfl) (s2 : (assignEach (.Name y py :: []) X.env).map (·.2) = assign (.Name y py) X.env :: (assignEach [] X.env).map (·.2) := by rfl)
    (e1 : starEach (a :: [b]) X.env = (false, eval a X.env) :: starEach [b] X.env := by rfl) (e2 : starEach (b :: []) X.env = (false, eval b X.env) :: starEach [] X.env := by rfl) :
    DSt X c (.Assign [.Tuple [.Name x px, .Name y py] kt pt] (.Tuple [a, b] k2 pt2) pos) (sPar [i, j] (wNs ta (wNs tb wNs0))) := (ps_asg (pe_tup (pa_cons ha (pa_cons hb pa_nil e2) e1)) (pg_tup B.calm (pgs_cons (pg_name B.nd hi hx fx) (pgs_cons (pg_name B.nd hj hy fy) pgs_nil s2) s1) hn hst) hs hw h1).imp fun D σ H h => by
  obtain ⟨F, S, E, r, h, kk⟩ := h
  refine ⟨F, S, _, r, h, fun xa S1 v F1 H1 q n1 r1 m1 => ⟨F1, S1, _, r1, q, fun xb S2 w F2 H2 q n2 r2 m2 => ⟨line_le (show 2 ≤ 1000000 by decide), fun p hp => ?_⟩⟩⟩
  obtain ⟨n3, r3, _⟩ := r2.newU (o := .tup [v, w]) hp tup_nt
  refine ⟨p, [v, w], rfl, .of upd_same, rfl, v, [w], rfl, w, [], rfl, rfl, ?_⟩
  have ra := r3.setN (i := i) ((m1.step n2).step n3)
  have rb := ra.setN (i := j) ((m2.step n3).after (i := i) r3.len fun p e o => m1.stands e o)
  exact kk.nx F2 _ _ _ (n1.le.trans n2.le) rb q.2
/-! ### cells -/
theorem inv_unext {pins : List (Addr × Obj)} {σ : Sg} {H : Hp} {s : Shared} {p : Addr} {n : Nat} (I : Inv X pins σ H s) (h : H p = some (.ext (CelP p n))) : ∃ ns : List Int, ns.length = n ∧ n ≤ 1000000 ∧ Inv X pins σ (upd H p (.lst (ns.map V.int))) s := by
  have x := I.hok p _ h
  obtain ⟨⟨ns, its, ep, h1, h2, h3, h4⟩, _⟩ := x
  refine ⟨ns, h1, h2, I.write (x := p) (e := p) (t' := s.toks) (h' := s.heap) (by rw [h]; trivial) (.inl rfl) (fun b v _ q => q) ⟨_, h4⟩ ?_⟩
  exact ⟨by rw [List.length_map, h1]; exact line_le h2, its, ep, h3, h4⟩
theorem inv_ext {pins : List (Addr × Obj)} {σ : Sg} {H : Hp} {s : Shared} {p : Addr} {ns : List Int} (I : Inv X pins σ H s) (h : H p = some (.lst (ns.map V.int))) (hn : ns.length ≤ 1000000) : Inv X pins σ (upd H p (.ext (CelP p ns.length))) s := by
  have x := I.hok p _ h
  obtain ⟨_, its, ep, h3, h4⟩ := x
  refine I.write (x := p) (e := p) (t' := s.toks) (h' := s.heap) (by rw [h]; trivial) (.inl rfl) (fun b v _ q => q) ⟨_, h4⟩ ?_
  refine ⟨⟨ns, its, ep, rfl, hn, h3, h4⟩, ⟨_, h4⟩, fun g1 g2 ⟨ms, jts, eq, k1, k2, k3, k4⟩ kk => ⟨ms, jts, eq, k1, k2, k3, kk _ k4⟩⟩
theorem upd_upd {H : Hp} {p : Addr} {o o' : HO} : upd (upd H p o) p o' = upd H p o' := by
  funext b
  by_cases e : b = p
  · subst e
    rw [upd_same, upd_same]
  · rw [upd_ne e, upd_ne e, upd_ne e]
theorem upd_id {H : Hp} {p : Addr} {o : HO} (h : H p = some o) : upd H p o = H := by
  funext b
  by_cases e : b = p
  · subst e
    rw [upd_same, h]
  · rw [upd_ne e]
theorem upd_swap {H : Hp} {p q : Addr} {o o' : HO} (n : p ≠ q) : upd (upd H p o) q o' = upd (upd H q o') p o := by
  funext b
  by_cases e : b = p
  · subst e
    rw [upd_ne n, upd_same, upd_same]
  · by_cases e2 : b = q
    · subst e2
      rw [upd_same, upd_ne e, upd_same]
    · rw [upd_ne e2, upd_ne e, upd_ne e, upd_ne e2]
theorem ix_cel : IxR X (fun x y H Q => ∃ p n i m, x = .ref p ∧ y = .int i ∧ H p = some (.ext (CelP p n)) ∧ ixD n i = some m ∧ ∀ z : Int, Q (.int z) H) := by
  intro value slice pins s σ H x y v u Q I rx ry h hs
  obtain ⟨p, n, i, m, rfl, rfl, hp, hm, q⟩ := h
  obtain ⟨ns, hl, hn, I1⟩ := inv_unext I hp
  have ml : m < ns.length := by
    have := (L2.ixN_seq (ixD_N hm)).2.1
    omega
  have ha : atI (ns.map V.int) i = some (.int ns[m]) := by
    unfold atI
    rw [List.length_map, hl, ixD_N hm]
    show (ns.map V.int)[m]? = _
    rw [List.getElem?_map, List.getElem?_eq_getElem ml]
    rfl
  refine wpAny_mono (ix_list value slice pins s σ (upd H p (.lst (ns.map V.int))) _ _ v u (fun v' H' => H' = upd H p (.lst (ns.map V.int)) ∧ ∃ z : Int, v' = .int z) I1 rx ry ⟨p, _, i, _, rfl, rfl, .inl (.inl upd_same), ha, rfl, _, rfl⟩ hs) (fun w s' he => ?_) fun _ _ hF => hF
  obtain ⟨v', H', I2, rv, rfl, z, rfl⟩ := he
  have I3 := inv_ext (p := p) (ns := ns) I2 upd_same (by omega)
  rw [upd_upd, hl, upd_id hp] at I3
  exact ⟨.int z, H, I3, rv, q z⟩
theorem de_celIx {ta tb : WSr} (ha : DS X c a ta) (hb : DS X c b tb) (hs : PlainIx b := by exact fun _ _ => rfl) : DE X c (.Subscript a b pos) (wOp celIxW ta tb) := (pe_ix ix_cel ha hb hs).imp fun σ H Q h => by
  obtain ⟨F, S, R, rp, h, k⟩ := h
  refine ⟨F, S, _, rp, h, fun x S1 v F1 H1 q n1 r1 rx => ⟨F1, S1, _, r1, q, fun y S2 u F2 H2 q n2 r2 ry => ?_⟩⟩
  obtain ⟨d, pd, q⟩ := okV_pk r2 q (rx.mono n2.le)
  obtain ⟨e, pe, q⟩ := okV_pk r2 q ry
  cases d with
  | cel n =>
    cases e with
    | int i =>
      obtain ⟨p, rfl, hF⟩ := pd
      have eu : u = .int i := pe
      subst eu
      obtain ⟨m, hm, q⟩ := q
      exact ⟨p, n, i, m, rfl, rfl, r2.fz.le _ _ hF, hm, fun z => k (.int z) S2 _ F2 H2 (q z) (n1.trans n2) r2 rfl⟩
    | _ => exact (show False from q).elim
  | _ => cases e <;> exact (show False from q).elim
theorem set_cel : PSet X (fun o i v H Q => ∃ p n k j z, o = .ref p ∧ i = .int k ∧ v = .int z ∧ H p = some (.ext (CelP p n)) ∧ ixD n k = some j ∧ Q H) := by
  intro pins s σ H o i v ov iv u Q I ro ri rv h
  obtain ⟨p, n, k, j, z, rfl, rfl, rfl, hp, hj, q⟩ := h
  obtain ⟨ns, hl, hn, I1⟩ := inv_unext I hp
  refine wpAny_mono (set_list pins s σ (upd H p (.lst (ns.map V.int))) _ _ _ ov iv u (fun H' => H' = upd H p (.lst ((ns.set j z).map V.int))) I1 ro ri rv ⟨p, _, k, j, rfl, rfl, upd_same, by rw [List.length_map, hl]; exact ixD_N hj, by rw [upd_upd, List.map_set]⟩) (fun w s' he => ?_) fun _ _ hF => hF
  obtain ⟨H', I2, rfl⟩ := he
  have I3 := inv_ext (p := p) (ns := ns.set j z) I2 upd_same (by rw [List.length_set]; omega)
  rw [upd_upd, List.length_set, hl, upd_id hp] at I3
  exact ⟨H, I3, q⟩
theorem celS_ex {x : SV} {k : Nat → Prop} (h : celS x k) : ∃ n, x = .dat (.cel n) ∧ k n := by
  cases x with
  | dat d =>
    cases d with
    | cel n => exact ⟨n, rfl, h⟩
    | _ => exact h.elim
  | _ => exact h.elim
theorem cel_of {F H : Hp} {S : Sl} {σ : Sg} {i n : Nat} (r : Rep c F S σ H) (hs : getS S i = .dat (.cel n)) : ∃ p, σ[i]? = some (some (.ref p)) ∧ F p = some (.ext (CelP p n)) := by
  have q := r.slot i
  rw [hs] at q
  obtain ⟨v, e, p, rfl, hF⟩ := q
  exact ⟨p, e, hF⟩
theorem s_celSet {i : Nat} {x : Str} {ek : Expr} {tk t : WE} {p spos : Pos} (hk : DE X c ek tk) (he : DE X c e t) (B : Ctx X c EX k) (hN : X.N[i]? = some x := by rfl) (hv : Vis X.env.scope x := by first | exact Or.inl rfl | exact Or.inr (Or.inl rfl) | exact Or.inr (Or.inr rfl)) (hd : (x == ("__debug__" : Str)) = false := by decide) (hcd : (x == ("__classdict__" : Str)) = false := by decide)
    (ha : ∀ v, assign (.Subscript (.Name x p) ek spos) X.env v = (do
      let ov ← holding [v] (eval (.Name x p) X.env)
      let iv ← holding [v, ov] (eval ek X.env)
      standAt spos
      holding [v, ov, iv] (setItem ov iv v)
      release [v, ov, iv] []) := by intro _; rfl) (hs : swapsWithSole [.Subscript (.Name x p) ek spos] e pos.line X.env = pure false := by rfl) (hw : swappedStores [.Subscript (.Name x p) ek spos] e X.env = pure none := by rfl)
    (h1 : (assignEach [.Subscript (.Name x p) ek spos] X.env).map (·.2) = [assign (.Subscript (.Name x p) ek spos) X.env] := by rfl) : DSt X c (.Assign [.Subscript (.Name x p) ek spos] e pos) (sCelSet i tk t) := (ps_asg he (pg_sub (pe_var hN hv hd hcd) hk set_cel ha) hs hw h1).imp fun D σ H h => by
  obtain ⟨F, S, E, r, h, k⟩ := h
  rw [sCelSet_e] at h
  refine ⟨F, S, _, r, h, fun d S1 v F1 H1 q n1 r1 rv => ?_⟩
  obtain ⟨n, es, q⟩ := celS_ex q
  obtain ⟨q0, e1, _⟩ := cel_of r1 es
  refine ⟨.ref q0, e1, F1, S1, _, r1, q, fun dk S2 vk F2 H2 q n2 r2 rk => ?_⟩
  obtain ⟨n', es2, q⟩ := celS_ex q
  obtain ⟨p1, e2, hF⟩ := cel_of r2 es2
  rw [e1] at e2
  cases e2
  cases dk with
  | int j =>
    cases d with
    | int z =>
      obtain ⟨m, hm, q⟩ := q
      have ek : vk = .int j := rk
      have ev : v = .int z := rv
      subst ek ev
      exact ⟨q0, n', j, m, z, rfl, rfl, rfl, r2.fz.le _ _ hF, hm, k.nx F2 _ σ _ (n1.le.trans n2.le) r2 q⟩
    | _ => exact (show False from q).elim
  | _ => exact (show False from q).elim
/-- a new cell -/
theorem cel_new {F H : Hp} {S : Sl} {σ : Sg} {l n : Nat} (r : Rep c F S σ H) (hl : H l = none) : Nx c.pr S σ F H S (upd F l (.ext (CelP l n))) (upd H l (.ext (CelP l n))) ∧ Rep c (upd F l (.ext (CelP l n))) S σ (upd H l (.ext (CelP l n))) ∧ Rv c.pr (upd F l (.ext (CelP l n))) (.cel n) (.ref l) := by
  obtain ⟨f, g, le⟩ := r.fz.new (o := .ext (CelP l n)) hl ext_nt (r.nepr hl)
  exact ⟨.grow le g, r.grow le g f, l, rfl, upd_same⟩
theorem call_celOf : CallR X (.type "list") (fun xs H Q => ∃ (p : Addr) (ns : List Int), xs = [.ref p] ∧ (SqL X.K H p (ns.map V.int) ∨ SqT X.K H p (ns.map V.int)) ∧ ns.length ≤ 1000000 ∧ ∀ l, H l = none → Q (.ref l) (upd H l (.ext (CelP l ns.length)))) := by
  intro pins s σ H xs us Q I r h
  obtain ⟨p, ns, rfl, hq, hn, q⟩ := h
  refine wpAny_mono (call_list_of pins s σ H _ us (fun v' H' => ∃ l, v' = .ref l ∧ H l = none ∧ H' = upd H l (.lst (ns.map V.int))) I r ⟨p, _, rfl, hq, fun l hl => ⟨l, rfl, hl, rfl⟩⟩) (fun w s' he => ?_) fun _ _ hF => hF
  obtain ⟨v', H', I2, rv, l, rfl, hl, rfl⟩ := he
  have I3 := inv_ext (p := l) (ns := ns) I2 upd_same hn
  rw [upd_upd] at I3
  exact ⟨_, _, I3, rv, q l hl⟩
theorem de_celOf {p : Pos} {ta : WSr} (ha : DS X c e ta) (hm : X.mg "list" = none) (hg : Gl X "list" := by rfl) (he : starEach (e :: []) X.env = (false, eval e X.env) :: starEach [] X.env := by rfl) (hpl : (backTo pos (starEach [] X.env)).any (·.1) = false := by rfl) :
    DE X c (.Call (.Name "list" p) [e] [] pos) (wCelOf ta) := (pe_callTy call_celOf hg hm (by decide +kernel) (dss_cons ha dss_nil he) (by decide) (by decide) he hpl).imp fun σ H Q h => by
  obtain ⟨F, S, R, rp, h, k⟩ := h
  rw [wCelOf_e] at h
  refine ⟨F, S, fun xs S1 => ∃ x, xs = [x] ∧ okV S1 x fun d => celOfW d fun n => R (.cel n) S1, rp, ?_, fun xs S1 vs F1 H1 q n1 r1 rx => ?_⟩
  · show ta S fun x S1 => wSs0 S1 fun xs S2 => _
    have mono : (fun (x : Src) (S1 : Sl) => okV S1 x fun d => celOfW d fun n => R (.cel n) S1) = fun x S1 => wSs0 S1 fun xs S2 => ∃ y, x :: xs = [y] ∧ okV S2 y fun d => celOfW d fun n => R (.cel n) S2 := by
      funext x S1
      refine propext ⟨fun w => ⟨x, rfl, w⟩, fun ⟨y, e, w⟩ => ?_⟩
      cases e
      exact w
    rw [← mono]
    exact h
  · obtain ⟨x, rfl, q⟩ := q
    obtain ⟨v, t, rfl, rx, e⟩ := rx
    have e : t = [] := e
    subst e
    obtain ⟨d, pd, q⟩ := okV_pk r1 q rx
    cases d with
    | tup xs =>
      obtain ⟨ns, rfl, hn, q⟩ := q
      obtain ⟨q0, vs, rfl, h1, rl, _⟩ := pd.sqt (K := X.K) r1.fz
      rw [rl.ints] at h1
      refine ⟨q0, ns, rfl, .inr h1, hn, fun l hl => ?_⟩
      obtain ⟨n2, r2, rv⟩ := cel_new (n := ns.length) r1 hl
      exact k _ S1 _ _ _ q (n1.trans n2) r2 rv
    | lst xs =>
      obtain ⟨ns, rfl, hn, q⟩ := q
      obtain ⟨q0, vs, rfl, h1, rl, _⟩ := pd.sql (K := X.K)
      rw [rl.ints] at h1
      refine ⟨q0, ns, rfl, .inl h1, hn, fun l hl => ?_⟩
      obtain ⟨n2, r2, rv⟩ := cel_new (n := ns.length) r1 hl
      exact k _ S1 _ _ _ q (n1.trans n2) r2 rv
    | _ => exact (show False from q).elim
theorem de_celLst {ta : WA} (ha : DAs X c es ta) : DE X c (.List es pos) (wCelLst ta) := ⟨fun pins s σ H Q I h => by
  obtain ⟨F, S, R, rp, h, k⟩ := h
  rw [wCelLst_e] at h
  refine wpAny_mono ((pe_lst ha).run pins s σ H (fun v' H' => ∃ (l : Addr) (H1 : Hp) (ns : List Int), v' = .ref l ∧ H' = upd H1 l (.lst (ns.map V.int)) ∧ ns.length ≤ 1000000 ∧ Q (.ref l) (upd H1 l (.ext (CelP l ns.length)))) I ⟨F, S, _, rp, h, fun ds S1 vs F1 H1 q n1 r1 rl => ?_⟩) (fun w s' he => ?_) fun _ _ hF => hF
  · obtain ⟨ns, rfl, hn, q⟩ := q
    rw [rl.ints]
    refine ⟨by rw [List.length_map]; exact line_le hn, fun l hl => ⟨l, H1, ns, rfl, rfl, hn, ?_⟩⟩
    obtain ⟨n2, r2, rv⟩ := cel_new (n := ns.length) r1 hl
    exact k _ S1 _ _ _ q (n1.trans n2) r2 rv
  · obtain ⟨v', H', I2, rv, l, H1, ns, rfl, rfl, hn, q⟩ := he
    have I3 := inv_ext (p := l) (ns := ns) I2 upd_same hn
    rw [upd_upd] at I3
    exact ⟨_, _, I3, rv, q⟩⟩
theorem call_celTup : CallR X (.type "tuple") (fun xs H Q => ∃ p n, xs = [.ref p] ∧ H p = some (.ext (CelP p n)) ∧ ∀ (ns : List Int) (l : Addr), ns.length = n → H l = none → Q (.ref l) (upd H l (.tup (ns.map V.int)))) := by
  intro pins s σ H xs us Q I r h
  obtain ⟨p, n, rfl, hp, q⟩ := h
  obtain ⟨ns, hl, hn, I1⟩ := inv_unext I hp
  refine wpAny_mono (call_tuple_of pins s σ (upd H p (.lst (ns.map V.int))) _ us (fun v' H' => ∃ l, v' = .ref l ∧ upd H p (.lst (ns.map V.int)) l = none ∧ H' = upd (upd H p (.lst (ns.map V.int))) l (.tup (ns.map V.int))) I1 r ⟨p, ns.map V.int, rfl, .inl ⟨.inl (.inl upd_same), fun l hl => ⟨l, rfl, hl, rfl⟩⟩⟩) (fun w s' he => ?_) fun _ _ hF => hF
  obtain ⟨v', H', I2, rv, l, rfl, hl2, rfl⟩ := he
  have lp : l ≠ p := fun z => by rw [z, upd_same] at hl2; cases hl2
  rw [upd_ne lp] at hl2
  have I3 := inv_ext (p := p) (ns := ns) I2 (by rw [upd_ne (Ne.symm lp), upd_same]) (by omega)
  rw [upd_swap lp, upd_upd, hl, upd_id hp] at I3
  exact ⟨_, _, I3, rv, q ns l hl hl2⟩
theorem de_celTup {p : Pos} {ta : WSr} (ha : DS X c e ta) (hm : X.mg "tuple" = none) (hg : Gl X "tuple" := by rfl) (he : starEach (e :: []) X.env = (false, eval e X.env) :: starEach [] X.env := by rfl) (hpl : (backTo pos (starEach [] X.env)).any (·.1) = false := by rfl) :
    DE X c (.Call (.Name "tuple" p) [e] [] pos) (wUn celTupW ta) := (pe_callTy call_celTup hg hm (by decide +kernel) (dss_cons ha dss_nil he) (by decide) (by decide) he hpl).imp fun σ H Q h => by
  obtain ⟨F, S, R, rp, h, k⟩ := h
  refine ⟨F, S, fun xs S1 => ∃ x, xs = [x] ∧ okV S1 x fun d => celTupW d fun z => R z S1, rp, ?_, fun xs S1 vs F1 H1 q n1 r1 rx => ?_⟩
  · show ta S fun x S1 => wSs0 S1 fun xs S2 => _
    have mono : (fun (x : Src) (S1 : Sl) => okV S1 x fun d => celTupW d fun z => R z S1) = fun x S1 => wSs0 S1 fun xs S2 => ∃ y, x :: xs = [y] ∧ okV S2 y fun d => celTupW d fun z => R z S2 := by
      funext x S1
      refine propext ⟨fun w => ⟨x, rfl, w⟩, fun ⟨y, e, w⟩ => ?_⟩
      cases e
      exact w
    rw [← mono]
    exact h
  · obtain ⟨x, rfl, q⟩ := q
    obtain ⟨v, t, rfl, rx, e⟩ := rx
    have e : t = [] := e
    subst e
    obtain ⟨d, pd, q⟩ := okV_pk r1 q rx
    cases d with
    | cel n =>
      obtain ⟨q0, rfl, hF⟩ := pd
      refine ⟨q0, n, rfl, r1.fz.le _ _ hF, fun ns l hn hl => ?_⟩
      obtain ⟨f, g, le⟩ := r1.fz.new (o := .tup (ns.map V.int)) hl tup_nt (r1.nepr hl)
      exact k _ S1 _ _ _ (q ns hn) (n1.trans (.grow le g)) (r1.grow le g f) ⟨l, _, rfl, upd_same, RvL.ofInts⟩
    | _ => exact (show False from q).elim
/-! ### a list of one's own that a def looks at -/
theorem de_callO {x y z : Str} {p p1 p2 : Pos} {ps : List Str} {s : DSp} {j r0 i : Nat} {T : List (Addr × Str)} {CB : Addr} (G : Callee X.prog X.w X.K X.mg X.base T CB x j ps s) (B : Ctx X c EX k) (hT : c.T = T) (hC : c.CB = CB) (hj : j ≤ k)
    (hN : X.N[r0]? = some y := by rfl) (hv : Vis X.env.scope y := by first | exact Or.inl rfl | exact Or.inr (Or.inl rfl) | exact Or.inr (Or.inr rfl)) (hd : (y == ("__debug__" : Str)) = false := by decide) (hcd : (y == ("__classdict__" : Str)) = false := by decide)
    (hN2 : X.N[i]? = some z := by rfl) (hv2 : Vis X.env.scope z := by first | exact Or.inl rfl | exact Or.inr (Or.inl rfl) | exact Or.inr (Or.inr rfl)) (hd2 : (z == ("__debug__" : Str)) = false := by decide) (hcd2 : (z == ("__classdict__" : Str)) = false := by decide)
    (hg : Gl X x := by rfl) (hdb : (x == ("__debug__" : Str)) = false := by decide) (he : starEach [.Name y p1, .Name z p2] X.env = (false, eval (.Name y p1) X.env) :: starEach [.Name z p2] X.env := by rfl) (he2 : starEach [.Name z p2] X.env = (false, eval (.Name z p2) X.env) :: starEach [] X.env := by rfl) (hpl : (backTo pos (starEach [.Name z p2] X.env)).any (·.1) = false := by rfl) :
    DE X c (.Call (.Name x p) [.Name y p1, .Name z p2] [] pos) (wCallO s EX r0 i) := by
  subst hT hC
  have hK := B.hK
  obtain ⟨f, fd, FN, hm, hk, hb, _⟩ := G.ex
  refine (pe_call FN (B.room.mono hj) hg hm hk hb .nil B.px (pa_cons (de_var (c := c) hN hv hd hcd) (pa_cons (pe_var hN2 hv2 hd2 hcd2) pa_nil he2) he) hdb he hpl).imp fun σ H Q h => ?_
  obtain ⟨F, S, R, rp, h, kk⟩ := h
  rw [wCallO_e] at h
  refine ⟨F, S, _, rp, h, fun d S1 v F1 H1 q n1 r1 rv => ?_⟩
  obtain ⟨xs, es, q⟩ := ownS_ex q
  obtain ⟨q0, vs, e1, hH, rl, m1, m2, m3⟩ := own_of r1 es
  refine ⟨.ref q0, e1, ?_⟩
  show spD X.K c.T c.CB s ([v, .ref q0] ++ []) H1 Q (liftX c EX)
  rw [List.append_nil]
  have le : Le F1 (upd F1 q0 (.lst vs)) := fun b u e => by rw [upd_ne (ne_of_none e m1)]; exact e
  have fz1 : Fz c.pr (upd F1 q0 (.lst vs)) H1 := ⟨fun b u e => by
    by_cases hb : b = q0
    · subst hb
      rw [upd_same] at e
      cases e
      exact hH
    · rw [upd_ne hb] at e
      exact r1.fz.le _ _ e, by rw [upd_ne (Ne.symm m3)]; exact r1.fz.npr, fun b u e => by
    by_cases hb : b = q0
    · subst hb
      rw [upd_same] at e
      cases e
      exact lst_nt
    · rw [upd_ne hb] at e
      exact r1.fz.ntb _ _ e⟩
  refine ⟨c.pr, c.ps, c.xs, upd F1 q0 (.lst vs), [d, .lst xs], _, _, hK ▸ r1.amb, fz1, ⟨v, [.ref q0], rfl, Rv.mono le _ _ rv, .ref q0, [], rfl, ⟨q0, vs, rfl, upd_same, RvL.mono le _ _ rl⟩, rfl⟩, q, fun z w F' H' q kp am zf g rw' => ?_, fun nm dd H' q kp am e => ⟨nm, dd, rfl, rfl, e, r1.keep.trans kp, hK ▸ am, q⟩⟩
  obtain ⟨fl, q⟩ := q
  have hp' : F' q0 = some (.lst vs) := g.le _ _ upd_same
  let F'' : Hp := fun a => if a = q0 then none else F' a
  have f1 : ∀ {b}, b ≠ q0 → F'' b = F' b := fun {b} hb => if_neg hb
  have f0 : F'' q0 = none := if_pos rfl
  have zf2 : Fz c.pr F'' H' := ⟨fun b u e => by
    by_cases hb : b = q0
    · rw [hb, f0] at e
      cases e
    · rw [f1 hb] at e
      exact zf.le _ _ e, by rw [f1 (Ne.symm m3)]; exact zf.npr, fun b u e => by
    by_cases hb : b = q0
    · rw [hb, f0] at e
      cases e
    · rw [f1 hb] at e
      exact zf.ntb _ _ e⟩
  have g2 : Gr F1 H1 F'' := ⟨fun b u e => by
    have hb : b ≠ q0 := ne_of_none e m1
    rw [f1 hb]
    exact g.le _ _ (le _ _ e), fun b hb => by
    have nb : b ≠ q0 := fun z => hb (by rw [z]; exact f0)
    rw [f1 nb] at hb
    rcases g.new b hb with w | w
    · rw [upd_ne nb] at w
      exact .inl w
    · exact .inr w⟩
  obtain ⟨nx, r2⟩ := r1.kept kp (hK ▸ am) zf2 g2
  refine kk z S1 w F'' H' q (n1.trans nx) r2 ?_
  cases z with
  | cel n =>
    obtain ⟨a, e, hF⟩ := rw'
    have na : a ≠ q0 := fun z => by rw [z, hp'] at hF; cases hF
    exact ⟨a, e, by rw [f1 na]; exact hF⟩
  | non => exact rw'
  | bl b => exact rw'
  | int i => exact rw'
  | str x => exact rw'
  | _ => exact fl.elim
end
end DL

set_option Elab.async false
set_option linter.all false
set_option maxRecDepth 100000
set_option maxHeartbeats 4000000
/-! sorted(xs, key=f), f a def. -/
namespace DL
open PySem PySem.Spec PyProof.Rows L2 PySem.W PySem.Calls
/-- the key's def, item by item -/
def rKs (sp : Sp) (K : List V → Hp → Prop) : List V → List V → Hp → Prop
  | [], acc, H => K acc H
  | x :: r, acc, H => sp [x] H (fun v H' => rKs sp K r (acc ++ [v]) H') (fun _ _ _ => False)
theorem rKs_cons {sp : Sp} {K : List V → Hp → Prop} {x : V} {r acc : List V} {H : Hp} : rKs sp K (x :: r) acc H = sp [x] H (fun v H' => rKs sp K r (acc ++ [v]) H') (fun _ _ _ => False) := rfl
section
variable {X : Cx} {pins : List (Addr × Obj)} {σ : L2.St} {H : Hp} {s : Shared} {k : Nat} {g a kS : Addr} {sp : Sp} {A : Around} {E : Value → Shared → Prop} {P : PySem.Fin → Shared → Prop} {xs : List V} {vs : List Value} {e1 : Nat} {K : List V → Hp → Prop}
theorem ks_rest (hr : Room k A) (hA : A.frames = some X.stack) (Fn : FnR X.prog X.w X.K X.mg X.base (L2.CX X.prog X.w) k g sp) (rv : Vals xs vs) (hZ : vs.length ≤ sizeLine)
    (I : Inv X pins σ H s) (fa : FpOk X pins H a) (fk : FpOk X pins H kS) (ra : a ∉ frs X.stack) (rk : kS ∉ frs X.stack) (hka : kS ≠ a)
    (nk : s.heap.get? kS = some (seqObj "list" #[] 0)) (na : s.heap.get? a = some (seqObj "list" #[] e1)) (D : rKs sp K xs [] H)
    (h : ∀ (H' : Hp) (s' : Shared) (acc : List V) (kA : Array Value) (e : Nat), Inv X pins σ H' s' → FpOk X pins H' a → FpOk X pins H' kS → s'.heap.get? kS = some (seqObj "list" kA e) → s'.heap.get? a = some (seqObj "list" #[] e1) → Vals acc kA.toList → acc.length = vs.length → K acc H' →
      wpAny (model X.prog X.w) A (ksk_end a false vs.toArray e1 (.ref kS) kA) P E s') :
    wpAny (model X.prog X.w) A (ksk_rest a (.ref g) false vs.toArray e1 (.ref kS)) P E s := by
  unfold ksk_rest
  refine wpAny_bind (wpAny_rule ?_)
  first
    | rw [List.forIn_toArray]
    | (rw [← Array.forIn_toList]; simp only [List.toList_toArray])
    | rw [← Array.forIn_toList]
  refine wpAny_bind (ksk_fold (fun i s' => ∃ H' acc kA e, Inv X pins σ H' s' ∧ FpOk X pins H' a ∧ FpOk X pins H' kS ∧ s'.heap.get? kS = some (seqObj "list" kA e) ∧ s'.heap.get? a = some (seqObj "list" #[] e1) ∧ Vals acc kA.toList ∧ acc.length = i ∧ rKs sp K (xs.drop i) acc H') vs 0 s
    ⟨H, [], #[], 0, I, fa, fk, nk, na, .nil, rfl, D⟩ ?step ?done)
  case step =>
    rintro j x s' hx ⟨H', acc, kA, e, I', fa', fk', nk', na', rA, al, D'⟩
    simp only [Nat.zero_add] at D' al ⊢
    have hj : j < vs.length := (List.getElem?_eq_some_iff.mp hx).1
    obtain ⟨xv, hxv⟩ : ∃ xv, xs[j]? = some xv := ⟨_, List.getElem?_eq_getElem (by rw [rv.length]; exact hj)⟩
    rw [drop_at hxv, rKs_cons] at D'
    obtain ⟨u, hu, rx⟩ := rv.get hxv
    rw [hx] at hu
    cases hu
    have e0 := I'.env0
    have e1' : Env0 X.prog X.w X.K X.mg X.base A X.stack s' H' := ⟨hA, e0.mod, e0.bs, e0.bsz, e0.funs, e0.frf, e0.hok, e0.bare⟩
    have hz0 : kA.size = j := by rw [← Array.length_toList, ← rA.length]; exact al
    have hz : kA.size ≤ vs.length := by omega
    refine wpAny_bind (wpAny_attempt (wpAny_call (codeAny_mono (Fn A X.stack s' H' [x] [xv] _ _ hr e1' (.cons rx .nil) D') fun rr s2 hrr => ?_)))
    cases rr with
    | error e => 
      obtain ⟨_, _, _, _, _, _, _, _, _, _, _, _, f⟩ := (show L2.CX X.prog X.w X.stack H' s' _ e s2 from hrr)
      exact f.elim
    | ok fl =>
      cases fl with
      | next => exact False.elim hrr
      | brk => exact False.elim hrr
      | cont => exact False.elim hrr
      | ret v =>
        obtain ⟨v', H2, os, bare, un, hok, rv', D2⟩ := (show CE X.stack X.prog X.w H' s' _ v s2 from hrr)
        have I2 : Inv X pins σ H2 s2 := I'.call' os un hok bare (fun b y => absurd y List.not_mem_nil)
        have nk2 : s2.heap.get? kS = some (seqObj "list" kA e) := un.keep _ _ nk' fk'.1 rk List.not_mem_nil
        have na2 : s2.heap.get? a = some (seqObj "list" #[] e1) := un.keep _ _ na' fa'.1 ra List.not_mem_nil
        have fk2 : FpOk X pins H2 kS := ⟨un.free _ _ nk' fk'.1 List.not_mem_nil, fk'.2⟩
        have fa2 : FpOk X pins H2 a := ⟨un.free _ _ na' fa'.1 List.not_mem_nil, fa'.2⟩
        try dsimp only
        have s1 := Heap.SameBut.update s2.heap kS (Obj.mapSeq (·.push v))
        obtain ⟨c2, hc2⟩ : ∃ c2, (s2.heap.update kS (Obj.mapSeq (·.push v))).get? kS = some (seqObj "list" (kA.push v) c2) := ⟨_, get?_update_seq nk2 (·.push v)⟩
        refine wpAny_bind (listUpdate_at nk2 rfl ?_ (Nat.le_trans hz hZ) (Nat.le_trans (Nat.le_of_eq (Array.size_push ..)) (Nat.succ_le_succ (Nat.le_trans hz hZ))))
        refine wpAny_pure ⟨rfl, H2, acc ++ [v'], kA.push v, c2, ?_, fa2, fk2, hc2, (s1.2 a hka.symm).trans na2, ?_, ?_, D2⟩
        · exact I2.turnedL (t' := s2.toks) (ch := [kS]) (fun b o hb q => (s1.2 b (by simpa using hb)).trans q) fun b hb => by
            rw [List.mem_singleton.mp hb]
            exact fk2
        · rw [show (kA.push v).toList = kA.toList ++ [v] by simp]
          exact rA.append (.cons rv' .nil)
        · rw [List.length_append, al]
          rfl
  case done =>
    rintro s' ⟨H', acc, kA, e, I', fa', fk', nk', na', rA, al, D'⟩
    rw [Nat.zero_add] at al D'
    rw [List.drop_of_length_le (by rw [rv.length]; exact Nat.le_refl _)] at D'
    try dsimp only
    refine wpAny_bind (listItems_at nk' rfl ?_)
    exact h H' s' acc kA e I' fa' fk' nk' na' rA al D'
theorem dp_each (I : Inv X pins σ H s) : ∀ (ds : List PyData) (ws : List V) (us : List Value), DpAll X.K H ws ds → Vals ws us → EachIs (fun u d => ∃ as, Reads s.heap u d as) us ds
  | [], _, _, h, r => by
    cases h
    cases r
    exact .nil
  | d :: ds, _, _, h, r => by
    cases h with
    | cons h1 h2 =>
      cases r with
      | cons r1 r2 => exact .cons (Dp.reads I d _ _ h1 r1) (dp_each I ds _ _ h2 r2)
theorem ks_end2 {acc : List V} {kA : Array Value} {e : Nat} {kz : List PyData} (I : Inv X pins σ H s) (nk : s.heap.get? kS = some (seqObj "list" kA e)) (na : s.heap.get? a = some (seqObj "list" #[] e1)) (hka : kS ≠ a) (rA : Vals acc kA.toList) (al : acc.length = vs.length) (hZ : vs.length ≤ sizeLine)
    (D : DpAll X.K H acc kz) (hal : AllAlike kz) (hsk : Sortable kz) (hu : ∀ d, d ∈ kz → A.units + d.depth < cLine)
    (h : ∀ h' tk out c, (∀ b o, b ∉ [a, kS] → s.heap.get? b = some o → h'.get? b = some o) → h'.get? a = some (seqObj "list" (List.toArray out) c) → KeyedOut false kz vs out → P (.done (.ret .none)) { s with heap := h', toks := tk }) :
    wpAny (model X.prog X.w) A (ksk_end a false vs.toArray e1 (.ref kS) kA) P E s := by
  obtain ⟨G, g1, g2⟩ := restrict s.heap fun b => decide (b ≠ kS)
  have hk' := dp_each I kz acc kA.toList D rA
  have kp : KeepsBut a G s.heap := fun b o hb q => by
    by_cases z : b = kS
    · rw [z, g2 kS (by simp)] at q
      cases q
    · rw [← g1 b (by simpa using z)]
      exact q
  refine keyH_end (κ := dataKind s.heap kz) (h₁ := G) kp (g2 kS (by simp)) nk na hka (SortsAt.data hk' hal hsk hu) (by rw [← Array.length_toList, ← rA.length, al]) hZ fun h' tk c k' n' => ?_
  refine h h' tk _ c (fun b o hb q => ?_) n' ⟨s.heap, kA.toList, hal, rfl, hk'⟩
  have z1 : b ≠ a := fun z => hb (by simp [z])
  have z2 : b ≠ kS := fun z => hb (by simp [z])
  exact k' b o z1 (by rw [g1 b (by simpa using z2)]; exact q)
def tri (a : Int × Int × Int) : PyData := .tuple [.int a.1, .int a.2.1, .int a.2.2]
theorem le3_tot (a b : Int × Int × Int) : le3 a b ∨ le3 b a := by
  unfold le3
  omega
theorem le3_tr {a b c : Int × Int × Int} (h1 : le3 a b) (h2 : le3 b c) : le3 a c := by
  unfold le3 at *
  omega
instance (a b : Int × Int × Int) : Decidable (le3 a b) := by
  unfold le3
  infer_instance
theorem tri_le {β : Type} (k : β → Int × Int × Int) : dataLe false (fun b => tri (k b)) = fun p q => decide (le3 (k p) (k q)) := by
  funext p q
  show (!dataLt (tri (k q)) (tri (k p))) = _
  have e : dataLt (tri (k q)) (tri (k p)) = decide ([(k q).1, (k q).2.1, (k q).2.2] < [(k p).1, (k p).2.1, (k p).2.2]) := by
    unfold tri
    rw [dataLt_tuple]
    exact dataLt_ints [(k q).1, (k q).2.1, (k q).2.2] [(k p).1, (k p).2.1, (k p).2.2]
  rw [e]
  by_cases h : le3 (k p) (k q)
  · rw [decide_eq_true h, decide_eq_false]
    · rfl
    · simp only [List.cons_lt_cons_iff, List.not_lt_nil, and_false, or_false]
      unfold le3 at h
      omega
  · rw [decide_eq_false h, decide_eq_true]
    · rfl
    · simp only [List.cons_lt_cons_iff, List.not_lt_nil, and_false, or_false]
      unfold le3 at h
      omega
theorem tri_sort {β : Type} (k : β → Int × Int × Int) (l : List β) : (l.mergeSort (dataLe false fun b => tri (k b))).Perm l ∧ (l.mergeSort (dataLe false fun b => tri (k b))).Pairwise fun a b => le3 (k a) (k b) := by
  rw [tri_le]
  refine ⟨List.mergeSort_perm _ _, ?_⟩
  have := List.pairwise_mergeSort (le := fun p q => decide (le3 (k p) (k q))) (fun a b c h1 h2 => decide_eq_true (le3_tr (of_decide_eq_true h1) (of_decide_eq_true h2))) (fun a b => by
    rcases le3_tot (k a) (k b) with h | h
    · simp [h]
    · simp [h]) l
  exact this.imp fun h => of_decide_eq_true h
theorem tri_alike (ks : List (Int × Int × Int)) : AllAlike (ks.map tri) := fun d hd d' hd' => by
  obtain ⟨a, _, rfl⟩ := List.mem_map.mp hd
  obtain ⟨b, _, rfl⟩ := List.mem_map.mp hd'
  simp [tri, alike, alikeAll]
theorem tri_sortable (ks : List (Int × Int × Int)) : Sortable (ks.map tri) := .inl fun d hd => by
  obtain ⟨a, _, rfl⟩ := List.mem_map.mp hd
  exact ⟨_, _, rfl⟩
theorem zip_each : ∀ {xs : List V} {us : List Value} {ks : List (Int × Int × Int)}, Vals xs us → ks.length = xs.length → EachIs (fun (v : Value) (p : V × Int × Int × Int) => RelV p.1 v) us (xs.zip ks)
  | _, _, [], .nil, _ => .nil
  | _, _, _ :: _, .nil, h => by cases h
  | _, _, [], .cons _ _, h => by cases h
  | _, _, k :: ks, .cons r rs, h => .cons r (zip_each rs (by simpa using h))
theorem each_vals : ∀ {us : List Value} {qs : List (V × Int × Int × Int)}, EachIs (fun (v : Value) (p : V × Int × Int × Int) => RelV p.1 v) us qs → Vals (qs.map fun q => q.1) us
  | _, _, .nil => .nil
  | _, _, .cons r rs => .cons r (each_vals rs)
theorem zip_tri : ∀ (xs : List V) (ks : List (Int × Int × Int)), ks.length = xs.length → (xs.zip ks).map (fun p => tri p.2) = ks.map tri
  | [], [], _ => rfl
  | _ :: xs, k :: ks, h => by
    rw [List.zip_cons_cons, List.map_cons, List.map_cons, zip_tri xs ks (by simpa using h)]
  | [], _ :: _, h => by cases h
  | _ :: _, [], h => by cases h
theorem dpl_len {K : PySem.W.Frag} {H : Hp} : ∀ (vs : List V) (ds : List PyData), DpAll K H vs ds → vs.length = ds.length
  | _, _, .nil => rfl
  | _, _, .cons _ h => by rw [List.length_cons, List.length_cons, dpl_len _ _ h]
theorem call_sortedK {l : Addr} {Q : VK} (hr : Room k X.A.in1.in1) (Fn : FnR X.prog X.w X.K X.mg X.base (L2.CX X.prog X.w) k g sp) (I : Inv X pins σ H s) (hs : SqL X.K H l xs) (ha1 : argsOk "sorted" ⟨[.ref l], [(Str.ofString "key", .ref g)]⟩) (ha2 : ∀ x, argsOk "list.sort" ⟨[.ref x], [(Str.ofString "key", .ref g)]⟩)
    (D : rKs sp (fun acc H' => ∃ ks : List (Int × Int × Int), DpAll X.K H' acc (ks.map tri) ∧ ∀ (qs : List (V × Int × Int × Int)) (p : Addr), qs.Perm (xs.zip ks) → qs.Pairwise (fun a b => le3 a.2 b.2) → H' p = none → Q (.ref p) (upd H' p (.lst (qs.map fun q => q.1)))) xs [] H) :
    wpAny (model X.prog X.w) X.A (call (.builtin "sorted") [.ref l] [(Str.ofString "key", .ref g)]) (EP X pins σ Q) X.xe s := by
  obtain ⟨its, rv, pl, hz⟩ := I.list hs
  have hl := rv.length
  have hZ : its.length ≤ sizeLine := by rw [← hl]; exact hz
  refine sorted_of_sort (vs := its) pl.isList hZ ha1 ha2 fun E' => ?_
  rw [ksk_t1]
  have I1 : Inv X pins σ H { s with heap := copyHeap s.heap its } := I.kept (t' := s.toks) fun b u e => copyHeap_old e
  have fa : FpOk X pins H (s.heap.objs.size + 1) := I.fpOk (Nat.le_succ _) (I.hok.fresh (Nat.le_succ _))
  have ra : s.heap.objs.size + 1 ∉ frs X.stack := (FbM.rec_new I (Nat.le_succ s.heap.objs.size)).fr
  have hoA := copyHeap_at s.heap its
  generalize s.heap.objs.size + 1 = a at *
  generalize copyHeap s.heap its = h0 at *
  obtain ⟨e1, ho1⟩ : ∃ e1, (h0.update a (Obj.mapSeq fun _ => (#[] : Array Value))).get? a = some (seqObj "list" #[] e1) := ⟨_, get?_update_seq hoA fun _ => #[]⟩
  unfold ksk_tree
  refine wpAny_bind (listItems_at hoA rfl ?_)
  refine wpAny_bind (listUpdate_at hoA rfl ?_ (by rw [List.size_toArray]; exact hZ) (Nat.zero_le _))
  refine wpAny_bind (seqEpoch_at ho1 rfl ?_)
  refine wpAny_bind (wpAny_newTuple ?_ (by show its.length ≤ _; exact hZ))
  refine wpAny_bind (wpAny_newList ?_ (Nat.zero_le _))
  refine wpAny_holding ?_
  have sb := Heap.SameBut.update h0 a (Obj.mapSeq fun _ => (#[] : Array Value))
  have I2 : Inv X pins σ H { s with heap := h0.update a (Obj.mapSeq fun _ => (#[] : Array Value)) } := Inv.turnedL (s := { s with heap := h0 }) (t' := s.toks) (ch := [a]) I1 (fun b o hb q => (sb.2 b (by simpa using hb)).trans q) fun b hb => by
    rw [List.mem_singleton.mp hb]
    exact fa
  have I3 : Inv X pins σ H { s with heap := (h0.update a (Obj.mapSeq fun _ => (#[] : Array Value))).push (seqObj "tuple" its.toArray 0) } := I2.kept (t' := s.toks) fun b u e => Heap.get?_push_of_some _ e
  have na3 : ((h0.update a (Obj.mapSeq fun _ => (#[] : Array Value))).push (seqObj "tuple" its.toArray 0)).get? a = some (seqObj "list" #[] e1) := Heap.get?_push_of_some _ ho1
  generalize (h0.update a (Obj.mapSeq fun _ => (#[] : Array Value))).push (seqObj "tuple" its.toArray 0) = h3 at *
  have fk : FpOk X pins H h3.objs.size := I3.fpOk (Nat.le_refl _) (I3.hok.fresh (Nat.le_refl _))
  have rk := (FbM.rec_new I3 (Nat.le_refl h3.objs.size)).fr
  have hka : h3.objs.size ≠ a := Nat.ne_of_gt (Heap.lt_size na3)
  have nk4 : (h3.push (seqObj "list" #[] 0)).get? h3.objs.size = some (seqObj "list" #[] 0) := Heap.get?_push_size _ rfl
  have I4 : Inv X pins σ H { s with heap := h3.push (seqObj "list" #[] 0) } := I3.kept (t' := s.toks) fun b u e => Heap.get?_push_of_some _ e
  refine ks_rest (s := { s with heap := h3.push (seqObj "list" #[] 0) }) hr I.ok.frames Fn rv hZ I4 fa fk ra rk hka nk4 (Heap.get?_push_of_some _ na3) D fun H' s' acc kA e I' fa' fk' nk' na' rA al KD => ?_
  obtain ⟨ks, dp, kq⟩ := KD
  have el : ks.length = xs.length := by
    have := dpl_len _ _ dp
    rw [List.length_map] at this
    omega
  refine ks_end2 I' nk' na' hka rA al hZ dp (tri_alike ks) (tri_sortable ks) (fun d hd => ?_) fun h' tk out c kp n' ko => ⟨rfl, ?_⟩
  · obtain ⟨t, _, rfl⟩ := List.mem_map.mp hd
    have := hr.un
    have e : (tri t).depth ≤ 2 := by simp [tri, PyData.depth, PyData.depthAll]
    omega
  · have I5 : Inv X pins σ H' { s' with heap := h', toks := tk } := I'.turnedL (t' := tk) (ch := [a, h3.objs.size]) kp fun b hb => by
      simp only [List.mem_cons, List.not_mem_nil, or_false] at hb
      rcases hb with rfl | rfl
      · exact fa'
      · exact fk'
    rw [← zip_tri xs ks el] at ko
    have eo := keyedOut_each (fun p : V × Int × Int × Int => tri p.2) ko (zip_each rv el)
    obtain ⟨t1, t2⟩ := tri_sort (fun p : V × Int × Int × Int => p.2) (xs.zip ks)
    have vo := each_vals eo
    have ol : ((List.mergeSort (xs.zip ks) (dataLe false fun p : V × Int × Int × Int => tri p.2)).map fun q => q.1).length ≤ sizeLine := by
      rw [List.length_map, t1.length_eq, List.length_zip, el, Nat.min_self]
      exact hz
    exact ⟨.ref a, _, I5.take (t' := tk) (fun b ob _ q => q) fa' (show ObjOk X.prog X.w _ _ _ (.lst _) from ⟨ol, out, c, vo, n'⟩), rfl, kq _ _ t1 t2 fa'.1⟩
end
end DL

set_option Elab.async false
set_option linter.all false
set_option maxRecDepth 100000
set_option maxHeartbeats 4000000
/-! sorted(xs, key=f), f a def: the data level. -/
namespace DL
open PySem PySem.Spec PyProof.Rows L2 PySem.W PySem.Calls
section
variable {X : Cx} {c : Cd} {EX : Str → Prop} {k : Nat} {e : Expr} {pos : Pos}
theorem room_in {k : Nat} {A : Around} (r : Room (k + 1) A) : Room k A.in1.in1 :=
  ⟨r.hd, by have := r.dp; show A.depth + 3 * k + 5 < _; omega, by have := r.un; show A.units + 1 + 1 + 16 * k + 200 < _; omega⟩
/-- the keys, item by item -/
theorem keys_run {T : List (Addr × Str)} {CB : Addr} {K : PySem.W.Frag} {s : DSp} {pr ps : Addr} {ys : List Int} {key : D → Int × Int × Int} {Kf : List V → Hp → Prop} {H0 : Hp} {F0 : Hp} :
    ∀ (ds : List D) (vs : List V) (F H : Hp) (acc : List V) (done : List (Int × Int × Int)), (∀ x ∈ ds, ∀ (Q : D → Prop) (E : Str → Prop), Q (kD3 (key x)) → s [x] Q E) →
      Amb K T pr ps ys H → Fz pr F H → Keep pr H0 H → Gr F0 H0 F → RvL pr F ds vs → RvL pr F (done.map kD3) acc →
      (∀ F' H' acc', Amb K T pr ps ys H' → Fz pr F' H' → Keep pr H0 H' → Gr F0 H0 F' → RvL pr F' ((done ++ ds.map key).map kD3) acc' → Kf acc' H') →
      rKs (spD K T CB s) Kf vs acc H
  | [], vs, F, H, acc, done, hs, am, fz, kp, gr, rl, ra, hK => by
    rw [show vs = [] from rl]
    exact hK F H acc am fz kp gr (by rw [List.map_nil, List.append_nil]; exact ra)
  | d :: ds, vs, F, H, acc, done, hs, am, fz, kp, gr, rl, ra, hK => by
    obtain ⟨v, t, rfl, r1, r2⟩ := rl
    rw [rKs_cons]
    refine ⟨pr, ps, ys, F, [d], fun z => z = kD3 (key d), fun _ => False, am, fz, ⟨v, [], rfl, r1, rfl⟩, hs d List.mem_cons_self _ _ rfl, fun z w F' H' ez kp' am' fz' gr' rw' => ?_, fun nm dd H' f => f.elim⟩
    subst ez
    refine keys_run ds t F' H' (acc ++ [w]) (done ++ [key d]) (fun x hx => hs x (List.mem_cons_of_mem _ hx)) am' fz' (kp.trans kp') (gr_trans kp gr gr') (RvL.mono gr'.le _ _ r2) ?_ fun F2 H2 acc2 a1 a2 a3 a4 a5 => hK F2 H2 acc2 a1 a2 a3 a4 ?_
    · rw [List.map_append]
      exact (RvL.mono gr'.le _ _ ra).append ⟨w, [], rfl, rw', rfl⟩
    · rw [List.append_assoc] at a5
      exact a5
theorem perm_lift2 {α β : Type} {f : α → β} : ∀ {l : List α} {ys : List β}, ys.Perm (l.map f) → ∃ js : List α, js.Perm l ∧ ys = js.map f
  | l, [], h => ⟨l, List.Perm.refl _, by
    have := h.length_eq
    rw [List.length_map] at this
    cases l with
    | nil => rfl
    | cons _ _ => simp at this⟩
  | l, y :: ys, h => by
    obtain ⟨x, hx, rfl⟩ := List.mem_map.mp (h.mem_iff.mp List.mem_cons_self)
    obtain ⟨l1, l2, rfl⟩ := List.append_of_mem hx
    rw [List.map_append, List.map_cons] at h
    have h2 : ys.Perm ((l1 ++ l2).map f) := by
      rw [List.map_append]
      exact List.Perm.cons_inv (h.trans List.perm_middle)
    obtain ⟨js, p, rfl⟩ := perm_lift2 h2
    exact ⟨x :: js, (p.cons x).trans List.perm_middle.symm, rfl⟩
theorem rvl_zip {pr : Addr} {F : Hp} : ∀ {ds : List D} {vs : List V}, RvL pr F ds vs → ∃ ws : List (D × V), ws.map (fun w => w.1) = ds ∧ ws.map (fun w => w.2) = vs ∧ ∀ w ∈ ws, Rv pr F w.1 w.2
  | [], vs, h => ⟨[], rfl, by rw [show vs = [] from h]; rfl, fun w hw => by cases hw⟩
  | d :: ds, _, h => by
    obtain ⟨v, t, rfl, r1, r2⟩ := h
    obtain ⟨ws, e1, e2, h3⟩ := rvl_zip r2
    refine ⟨(d, v) :: ws, by rw [List.map_cons, e1], by rw [List.map_cons, e2], fun w hw => ?_⟩
    rcases List.mem_cons.mp hw with rfl | hw
    · exact r1
    · exact h3 w hw
theorem rvl_of {pr : Addr} {F : Hp} : ∀ {ws : List (D × V)}, (∀ w ∈ ws, Rv pr F w.1 w.2) → RvL pr F (ws.map fun w => w.1) (ws.map fun w => w.2)
  | [], _ => rfl
  | w :: ws, h => ⟨w.2, _, rfl, h w List.mem_cons_self, rvl_of fun z hz => h z (List.mem_cons_of_mem _ hz)⟩
theorem zip_maps {key : D → Int × Int × Int} : ∀ (ws : List (D × V)), (ws.map fun w => w.2).zip ((ws.map fun w => w.1).map key) = ws.map fun w => (w.2, key w.1)
  | [] => rfl
  | w :: ws => by
    rw [List.map_cons, List.map_cons, List.map_cons, List.map_cons, List.zip_cons_cons, zip_maps ws]
theorem toPys_tri : ∀ (ks : List (Int × Int × Int)), toPys (ks.map kD3) = ks.map tri
  | [] => by unfold toPys; rfl
  | k :: ks => by
    rw [List.map_cons, List.map_cons]
    unfold toPys
    rw [toPys_tri ks]
    simp [kD3, tri, toPy, toPys]
def rSK (X : Cx) (T : List (Addr × Str)) (CB : Addr) (s : DSp) (f : Addr) : List V → List V → Hp → VK → Prop := fun xs zs H Q => ∃ (l : Addr) (vs : List V), xs = [.ref l] ∧ zs = [.ref f] ∧ SqL X.K H l vs ∧
  rKs (spD X.K T CB s) (fun acc H' => ∃ ks : List (Int × Int × Int), DpAll X.K H' acc (ks.map tri) ∧ ∀ (qs : List (V × Int × Int × Int)) (p : Addr), qs.Perm (vs.zip ks) → qs.Pairwise (fun a b => le3 a.2 b.2) → H' p = none → Q (.ref p) (upd H' p (.lst (qs.map fun q => q.1)))) vs [] H
theorem cr_SK {T : List (Addr × Str)} {CB : Addr} {s : DSp} {f : Addr} {j : Nat} (hr : Room (j + 1) X.A) (Fn : FnR X.prog X.w X.K X.mg X.base (L2.CX X.prog X.w) j f (spD X.K T CB s)) : CallRK X (.builtin "sorted") [Str.ofString "key"] (rSK X T CB s f) := by
  intro pins s0 σ H xs zs us ws Q I rx rz ⟨l, vs, e1, e2, hs, D⟩
  subst e1 e2
  obtain ⟨u, rfl, ru⟩ := vals1 rx
  cases ru
  obtain ⟨w, rfl, rw'⟩ := vals1 rz
  cases rw'
  exact call_sortedK (room_in hr) Fn I hs (by first | rfl | decide | exact trivial) (fun x => by first | rfl | decide | exact trivial) D
theorem dl_sortK {g : Str} {p gp kp : Pos} {ps : List Str} {s : DSp} {t : WL} {j : Nat} {T : List (Addr × Str)} {CB : Addr} (G : Callee X.prog X.w X.K X.mg X.base T CB g j ps s) (B : Ctx X c EX k) (hT : c.T = T) (hC : c.CB = CB) (hj : j + 1 ≤ k) (he : DFr X c e t) (hm : X.mg "sorted" = none)
    (hg : Gl X "sorted" := by rfl) (hgg : Gl X g := by rfl) (hdg : (g == ("__debug__" : Str)) = false := by decide)
    (he1 : starEach (e :: []) X.env = (false, eval e X.env) :: starEach [] X.env := by rfl) (he2 : backTo pos (starEach (e :: []) X.env) = (false, eval e X.env) :: backTo pos (starEach [] X.env) := by rfl) (hpl : (backTo pos (starEach (e :: []) X.env)).any (·.1) = false := by rfl)
    (hall : (backToKw pos (keywordEach [⟨some "key", .Name g gp, kp⟩] X.env)).all (·.1.isSome) = true := by rfl) (hnone : (backToKw pos (keywordEach [⟨some "key", .Name g gp, kp⟩] X.env)).any (·.1.isNone) = false := by rfl) (hks : (backToKw pos (keywordEach [⟨some "key", .Name g gp, kp⟩] X.env)).filterMap (·.1) = [Str.ofString "key"] := by rfl) :
    DFr X c (.Call (.Name "sorted" p) [e] [⟨some "key", .Name g gp, kp⟩] pos) (wSortK s t) := by
  subst hT hC
  obtain ⟨f, fd, FN, hmg, hk, hb, _⟩ := G.ex
  have Fn : FnR X.prog X.w X.K X.mg X.base (L2.CX X.prog X.w) j f (spD X.K c.T c.CB s) := (FN.raw hb .nil).imp fun vs H Q E q => by rw [List.append_nil]; exact q
  refine (pe_callBK (cr_SK (B.room.mono hj) Fn) hg hm (by decide +kernel) (pa_cons (de_fr he) pa_nil he1) (pk_cons (pe_glob hgg hmg (v := .ref f) rfl hdg) pk_nil) (by decide) (by decide) he2 hpl hall hnone hks).imp fun σ H Q h => ?_
  obtain ⟨F, S, R, rp, h, kk⟩ := h
  rw [wSortK_e] at h
  refine ⟨F, S, fun d S1 => match d with
    | .lst ds => ds.length ≤ 1000 ∧ ∃ key : D → Int × Int × Int, (∀ x ∈ ds, ∀ (Q : D → Prop) (E : Str → Prop), Q (kD3 (key x)) → s [x] Q E) ∧ ∀ ys : List D, ys.Perm ds → ys.Pairwise (fun a b => le3 (key a) (key b)) → R ys S1
    | _ => False, rp, h, fun d S1 v F1 H1 q n1 r1 rv => ?_⟩
  cases d with
  | lst ds =>
    obtain ⟨_, key, hkey, hq⟩ := q
    obtain ⟨l, vs, rfl, hs, rl, _⟩ := (rv.pk r1.fz.le).sql (K := X.K)
    obtain ⟨ws, ew1, ew2, hw⟩ := rvl_zip rl
    refine ⟨l, vs, rfl, rfl, hs, keys_run (pr := c.pr) (ps := c.ps) (ys := c.xs) (H0 := H1) (F0 := F1) ds vs F1 H1 [] [] hkey (B.hK ▸ r1.amb) r1.fz (.refl ..) (.refl ..) rl rfl fun F' H' acc' am' fz' kp' gr' ra => ⟨ds.map key, ?_, fun qs p pm pw hp => ?_⟩⟩
    · have := RvL.dp (K := X.K) fz'.le 1 _ _ (fun x hx => by
        obtain ⟨t, _, rfl⟩ := List.mem_map.mp hx
        simp [kD3]) ra
      rw [toPys_tri] at this
      exact this
    · subst ew1 ew2
      rw [zip_maps] at pm
      obtain ⟨zs, pz, rfl⟩ := perm_lift2 pm
      obtain ⟨nx, r2⟩ := r1.kept kp' (B.hK ▸ am') fz' gr'
      obtain ⟨nf, r3⟩ := r2.fresh (o := .lst (zs.map fun w => w.2)) hp
      rw [List.map_map]
      rw [List.pairwise_map] at pw
      refine kk (zs.map fun w => w.1) S1 p F' _ (hq _ (pz.map _) ?_) ((n1.trans nx).trans nf) r3 (newL r2 (n1.trans nx) hp (rvl_of fun w hz => Rv.mono gr'.le _ _ (hw w (pz.mem_iff.mp hz))))
      rw [List.pairwise_map]
      exact pw
  | _ => exact q.elim
end
end DL

set_option Elab.async false
set_option linter.all false
set_option maxRecDepth 100000
set_option maxHeartbeats 4000000
/-! Pairs of a whole number and a list of whole numbers: sorted, less than. -/
namespace DL
open PySem PySem.Spec PyProof.Rows L2 PySem.W PySem.Calls
def pyQ (q : Int × List Int) : PyData := .tuple [.int q.1, .list (q.2.map .int)]
theorem toPys_ints : ∀ ns : List Int, toPys (ns.map D.int) = ns.map PyData.int
  | [] => by unfold toPys; rfl
  | n :: ns => by
    rw [List.map_cons, List.map_cons]
    unfold toPys
    rw [toPys_ints ns]
    simp [toPy]
theorem toPy_qD (q : Int × List Int) : toPy (qD q) = pyQ q := by
  simp [qD, pyQ, toPy, toPys, toPys_ints]
theorem toPys_qD : ∀ qs : List (Int × List Int), toPys (qs.map qD) = qs.map pyQ
  | [] => by unfold toPys; rfl
  | q :: qs => by
    rw [List.map_cons, List.map_cons]
    unfold toPys
    rw [toPys_qD qs, toPy_qD]
theorem ltL_eq : ∀ xs ys : List Int, decide (xs < ys) = ltL xs ys
  | [], [] => by decide
  | [], y :: ys => by simp [ltL]
  | x :: xs, [] => by simp [ltL]
  | x :: xs, y :: ys => by
    show _ = (decide (x < y) || (decide (x = y) && ltL xs ys))
    rw [← ltL_eq xs ys, Bool.eq_iff_iff]
    simp [List.cons_lt_cons_iff]
theorem eqvAll_ints : ∀ xs ys : List Int, PyData.eqvAll (xs.map .int) (ys.map .int) = decide (xs = ys)
  | [], [] => by simp [PyData.eqvAll]
  | [], y :: ys => by simp [PyData.eqvAll]
  | x :: xs, [] => by simp [PyData.eqvAll]
  | x :: xs, y :: ys => by
    show PyData.eqvAll (PyData.int x :: xs.map .int) (PyData.int y :: ys.map .int) = _
    rw [PyData.eqvAll, eqvAll_ints xs ys, Bool.eq_iff_iff]
    simp [PyData.eqv]
theorem alike_q (p q : Int × List Int) : alike (pyQ p) (pyQ q) = true := by
  simp [pyQ, alike, alikeAll, alike_ints]
theorem depth_q (q : Int × List Int) : (pyQ q).depth ≤ 3 := by
  simp [pyQ, PyData.depth, PyData.depthAll, depth_ints]
theorem dataLt_q (p q : Int × List Int) : dataLt (pyQ p) (pyQ q) = ltq p q := by
  unfold pyQ
  rw [dataLt_pair (by simp [alike]) (by simp [alike, alike_ints]), dataLt_int]
  have e : dataLt (.list (p.2.map .int)) (.list (q.2.map .int)) = ltL p.2 q.2 := by
    rw [dataLt_list]
    exact (dataLt_ints p.2 q.2).trans (ltL_eq _ _)
  rw [e]
  simp only [PyData.eqv, eqvAll_ints, beq_iff_eq, decide_eq_true_eq]
  unfold ltq
  by_cases h1 : p.1 = q.1
  · rw [if_pos h1, decide_eq_true h1, decide_eq_false (by omega)]
    by_cases h2 : p.2 = q.2
    · rw [if_pos h2, h2, ltL_irr]
      rfl
    · rw [if_neg h2]
      simp
  · rw [if_neg h1, decide_eq_false h1]
    simp
section
variable {X : Cx} {c : Cd}
theorem sh_qD (q : Int × List Int) : Sh 9 (qD q) := by
  simp [qD]
theorem o_ltQ (hu : X.A.units + 64 < cLine) : DOp X c (compareOp .Lt) ltQW := by
  intro pins s σ H x y v u Q I rx ry h
  obtain ⟨F, d, e, R, fz, np, p1, p2, q, k⟩ := h
  obtain ⟨i, j, xs, ys, rfl, rfl⟩ : ∃ i j xs ys, d = .tup [.int i, .lst xs] ∧ e = .tup [.int j, .lst ys] := by
    unfold ltQW at q
    split at q
    · exact ⟨_, _, _, _, rfl, rfl⟩
    · exact q.elim
  rw [ltQW_e] at q
  obtain ⟨ns, ms, rfl, rfl, q⟩ := q
  have d1 := p1.dp (K := X.K) (n := 9) fz (sh_qD (i, ns))
  have d2 := p2.dp (K := X.K) (n := 9) fz (sh_qD (j, ms))
  obtain ⟨as, r1⟩ := Dp.reads I _ x v d1 rx
  obtain ⟨bs, r2⟩ := Dp.reads I _ y u d2 ry
  have e1 := toPy_qD (i, ns)
  have e2 := toPy_qD (j, ms)
  unfold qD at e1 e2
  rw [e1] at r1
  rw [e2] at r2
  refine lt_data r1 r2 (alike_q _ _) (fun z => by cases z) ?_ ⟨.bl (ltq (i, ns) (j, ms)), H, I, ?_, k _ _ _ _ q (.refl _) (.refl _ _) fz rfl⟩
  · have := depth_q (i, ns)
    have := Nat.min_le_left (pyQ (i, ns)).depth (pyQ (j, ms)).depth
    omega
  · rw [dataLt_q]
    rfl
theorem each_zip {α β γ : Type} {R : α → β → Prop} {T : γ → α → Prop} : ∀ {as : List α} {bs : List β}, EachIs R as bs → True := fun _ => trivial
theorem each_of {F : Hp} : ∀ {qs : List (Int × List Int)} {vs : List V} {us : List Value}, RvL c.pr F (qs.map qD) vs → Vals vs us → EachIs (fun u q => ∃ x, RelV x u ∧ Rv c.pr F (qD q) x) us qs
  | [], vs, us, r, rv => by
    rw [show vs = [] from r] at rv
    cases rv
    exact .nil
  | q :: qs, vs, us, r, rv => by
    obtain ⟨v, t, rfl, r1, r2⟩ := r
    cases rv with
    | cons a b => exact .cons ⟨v, a, r1⟩ (each_of r2 b)
theorem of_each {F : Hp} : ∀ {qs : List (Int × List Int)} {us : List Value}, EachIs (fun u q => ∃ x, RelV x u ∧ Rv c.pr F (qD q) x) us qs → ∃ vs, RvL c.pr F (qs.map qD) vs ∧ Vals vs us
  | [], us, h => by
    cases h
    exact ⟨[], rfl, .nil⟩
  | q :: qs, us, h => by
    cases h with
    | cons a b =>
      obtain ⟨x, r1, r2⟩ := a
      obtain ⟨vs, r3, r4⟩ := of_each b
      exact ⟨x :: vs, ⟨x, vs, rfl, r2, r3⟩, .cons r1 r4⟩
theorem b_sortedQ (hu : X.A.units + 64 < cLine) : CallR X (.builtin "sorted") (LNl c sortedQ) := by
  intro pins s σ H xs us Q I rx h
  obtain ⟨F, ds, R, fz, p, q, k⟩ := h
  match ds, q with
  | [.lst ys], q =>
    obtain ⟨v, rfl, p1⟩ := pks1 p
    obtain ⟨a, vs, rfl, h1, rl, _⟩ := p1.sql (K := X.K)
    rw [sortedQ_e] at q
    obtain ⟨qs, rfl, q⟩ := q
    obtain ⟨its, rv, hl, hz⟩ := I.list h1
    obtain ⟨u, rfl, ru⟩ := vals1 rx
    obtain rfl : u = Value.ref a := ru
    have dpa := RvL.dp (K := X.K) (H := H) fz.le 9 _ _ (fun x hx => by
      obtain ⟨t, _, rfl⟩ := List.mem_map.mp hx
      exact sh_qD t) rl
    rw [toPys_qD] at dpa
    have er : EachIs (fun u d => ∃ as, Reads s.heap u d as) its (qs.map pyQ) := dp_each I _ _ _ dpa rv
    have er2 : EachIs (fun u (d : Int × List Int) => ∃ as, Reads s.heap u (pyQ d) as) its qs := by
      clear hl hz rv dpa h1 rl p p1 q
      revert er
      generalize its = us
      induction qs generalizing us with
      | nil =>
        intro er
        cases er
        exact .nil
      | cons q qs ih =>
        intro er
        rw [List.map_cons] at er
        cases er with
        | cons a b => exact .cons a (ih _ b)
    have ee := each_of rl rv
    have hlen := ee.length
    refine sorted_data (enc := pyQ) (bs := qs) (vs := its) hl.isList ee er2 (fun d hd d' hd' => ?_) (.inl fun d hd => ?_) (by rw [← hlen, ← rv.length]; exact hz) (fun b hb => ?_) fun out h3 h4 => ?_
    · obtain ⟨t, _, rfl⟩ := List.mem_map.mp hd
      obtain ⟨t', _, rfl⟩ := List.mem_map.mp hd'
      exact alike_q _ _
    · obtain ⟨t, _, rfl⟩ := List.mem_map.mp hd
      exact ⟨_, _, rfl⟩
    · have := depth_q b
      omega
    · obtain ⟨ws, w1, w2⟩ := of_each h4
      have hd : s.heap.objs.size ≤ s.heap.objs.size + 1 := Nat.le_succ _
      refine ⟨.ref (s.heap.objs.size + 1), upd H (s.heap.objs.size + 1) (.lst ws), I.laid (t' := s.toks) (fun b o e => sortedAll_old e) hd ?_, rfl, k _ _ _ (q _ (List.mergeSort_perm _ _) ?_) (I.hok.fresh hd) w1⟩
      · obtain ⟨n, hn⟩ := sortedAll_at s.heap its out.toArray
        refine ⟨?_, out, n, w2, hn⟩
        rw [w2.length, h3, ← hlen, ← rv.length]
        exact hz
      · have := List.pairwise_mergeSort (le := dataLe false pyQ) (fun a b c h1 h2 => ?_) (fun a b => ?_) qs
        · refine this.imp fun {a b} w => ?_
          have w : (!dataLt (pyQ b) (pyQ a)) = true := w
          rw [dataLt_q] at w
          simpa using w
        · have h1 : (!dataLt (pyQ b) (pyQ a)) = true := h1
          have h2 : (!dataLt (pyQ c) (pyQ b)) = true := h2
          show (!dataLt (pyQ c) (pyQ a)) = true
          rw [dataLt_q] at h1 h2 ⊢
          simp only [Bool.not_eq_true'] at h1 h2 ⊢
          cases z : ltq c a with
          | false => rfl
          | true =>
            cases z2 : ltq b c with
            | true =>
              have := ltq_tr z2 z
              rw [h1] at this
              cases this
            | false =>
              have e := ltq_tri h2 z2
              subst e
              rw [h1] at z
              cases z
        · show ((!dataLt (pyQ b) (pyQ a)) || (!dataLt (pyQ a) (pyQ b))) = true
          rw [dataLt_q, dataLt_q]
          cases z : ltq b a with
          | false => rfl
          | true =>
            cases z2 : ltq a b with
            | false => rfl
            | true =>
              have := ltq_tr z z2
              rw [ltq_irr] at this
              cases this
  | [.non], q | [.bl _], q | [.int _], q | [.str _], q | [.dI _], q | [.dT _], q | [.row], q | [.tup _], q | [.cel _], q => exact q.elim
  | [], q => exact q.elim
  | d :: _ :: _, q => cases d <;> exact q.elim
end
end DL

set_option Elab.async false
set_option linter.all false
set_option maxRecDepth 100000
set_option maxHeartbeats 4000000
/-! side = _law_pick(row, [one, two]); at = ..; side[at] = ..: a second name for one of two lists. -/
namespace DL
open PySem PySem.Spec PyProof.Rows L2
/-- one of a list's things, whatever they are -/
def pickSp (K : PySem.W.Frag) (T : List (Addr × Str)) : Sp := fun vs H Q _ => ∃ pr ps xs l us, vs = [.ref pr, .ref l] ∧ Amb K T pr ps xs H ∧ H l = some (.lst us) ∧ l ≠ pr ∧ us ≠ [] ∧ us.length ≤ 1000000 ∧ ∀ u ∈ us, ∀ H', Keep pr H H' → Amb K T pr ps xs H' → Q u H'
structure CalleeV (P : Program) (w : World) (K : PySem.W.Frag) (mg : Str → Option Value) (base : Heap) (x : Str) (k : Nat) (ps : List Str) (sp : Sp) : Prop where
  ex : ∃ f fd, FnOk P w K mg base (L2.CX P w) k f fd ps sp ∧ mg x = some (.ref f) ∧ PySem.W.keepIn K (.ref f) = true ∧ Binds K fd ps []
theorem getS_un (S : Sl) (i : Nat) : getS (S.set i .un) i = .un := by
  by_cases hi : i < S.length
  · exact getS_set_self hi
  · unfold getS
    rw [List.getD, List.getElem?_eq_none (by rw [List.length_set]; exact Nat.le_of_not_lt hi)]
    rfl
section
variable {c : Cd} {F H : Hp} {S : Sl} {σ : Sg}
theorem Rep.setU (r : Rep c F S σ H) (i : Nat) (v : V) : Rep c F (S.set i .un) (σ.set i (some v)) H := by
  refine ⟨r.amb0, r.amb, r.keep, r.fz, r.gr, fun j => ?_, fun j l p a1 a2 => ?_, by rw [List.length_set, List.length_set]; exact r.len⟩
  · by_cases e : i = j
    · subst e
      rw [getS_un]
      trivial
    · rw [getS_set_ne e, List.getElem?_set_ne e]
      exact r.slot j
  · have ne : ∀ l, OwnAt (S.set i .un) (σ.set i (some v)) l p → l ≠ i := fun l ⟨h, _⟩ e => by
      subst e
      rw [getS_un] at h
      rcases h with ⟨_, z⟩ | ⟨_, z⟩ | ⟨_, z⟩ <;> cases z
    exact r.apart j l p (own_set_ne (ne j a1) a1) (own_set_ne (ne l a2) a2)
/-- a list of one's own, under another name -/
theorem Rep.alias {i j : Nat} {xs : List D} {p : Addr} (r : Rep c F S σ H) (ij : i ≠ j) (hi : getS S i = .own xs) (hj : getS S j = .un) (jl : j < S.length) (ei : σ[i]? = some (some (.ref p))) (ej : σ[j]? = some (some (.ref p))) : Rep c F ((S.set i .un).set j (.own xs)) σ H := by
  have oi : OwnAt S σ i p := ⟨.inl ⟨_, hi⟩, ei⟩
  have gj : getS ((S.set i .un).set j (.own xs)) j = .own xs := getS_set_self (by rw [List.length_set]; exact jl)
  have gi : getS ((S.set i .un).set j (.own xs)) i = .un := by
    rw [getS_set_ne (Ne.symm ij), getS_un]
  have go : ∀ l, l ≠ i → l ≠ j → getS ((S.set i .un).set j (.own xs)) l = getS S l := fun l h1 h2 => by
    rw [getS_set_ne (Ne.symm h2), getS_set_ne (Ne.symm h1)]
  refine ⟨r.amb0, r.amb, r.keep, r.fz, r.gr, fun l => ?_, fun a b q a1 a2 => ?_, by rw [List.length_set, List.length_set]; exact r.len⟩
  · by_cases e : l = j
    · subst e
      rw [gj, ej, ← ei, ← hi]
      exact r.slot i
    · by_cases e2 : l = i
      · subst e2
        rw [gi]
        trivial
      · rw [go l e2 e]
        exact r.slot l
  · have key : ∀ l, OwnAt ((S.set i .un).set j (.own xs)) σ l q → (l = j ∧ q = p) ∨ (l ≠ i ∧ l ≠ j ∧ OwnAt S σ l q) := fun l ⟨h1, h2⟩ => by
      by_cases e : l = j
      · subst e
        rw [ej] at h2
        cases h2
        exact .inl ⟨rfl, rfl⟩
      · by_cases e2 : l = i
        · subst e2
          rw [gi] at h1
          rcases h1 with ⟨_, z⟩ | ⟨_, z⟩ | ⟨_, z⟩ <;> cases z
        · rw [go l e2 e] at h1
          exact .inr ⟨e2, e, h1, h2⟩
    rcases key a a1 with ⟨rfl, rfl⟩ | ⟨w1, w2, w3⟩
    · rcases key b a2 with ⟨rfl, _⟩ | ⟨u1, u2, u3⟩
      · rfl
      · exact (u1 (r.apart _ _ _ u3 oi)).elim
    · rcases key b a2 with ⟨rfl, rfl⟩ | ⟨u1, u2, u3⟩
      · exact (w1 (r.apart _ _ _ w3 oi)).elim
      · exact r.apart _ _ _ w3 u3
end
section
variable {X : Cx} {c : Cd} {EX : Str → Prop} {k : Nat} {e2 e3 : Expr} {rest : List Stmt} {pos pos1 pos2 pos3 : Pos}
theorem ss_pick3 {r0 i1 i2 s a j : Nat} {f nr n1 n2 ns na : Str} {ps : List Str} {q1 q2 q3 q4 q5 q6 q7 q8 q9 q10 : Pos} {t2 t3 : WE} {u : WS} {T : List (Addr × Str)} (G : CalleeV X.prog X.w X.K X.mg X.base f j ps (pickSp X.K T)) (B : Ctx X c EX k) (hT : c.T = T) (hj : j ≤ k) (he2 : DE X c e2 t2) (he3 : DE X c e3 t3) (hr : DSts X c rest u)
    (d1 : (i1 ≠ s ∧ i1 ≠ a) ∧ (i2 ≠ s ∧ i2 ≠ a) ∧ s ≠ a := by decide)
    (hN0 : X.N[r0]? = some nr := by rfl) (hv0 : Vis X.env.scope nr := by first | exact Or.inl rfl | exact Or.inr (Or.inl rfl) | exact Or.inr (Or.inr rfl)) (hd0 : (nr == ("__debug__" : Str)) = false := by decide) (hc0 : (nr == ("__classdict__" : Str)) = false := by decide)
    (hN1 : X.N[i1]? = some n1 := by rfl) (hv1 : Vis X.env.scope n1 := by first | exact Or.inl rfl | exact Or.inr (Or.inl rfl) | exact Or.inr (Or.inr rfl)) (hd1 : (n1 == ("__debug__" : Str)) = false := by decide) (hc1 : (n1 == ("__classdict__" : Str)) = false := by decide)
    (hN2 : X.N[i2]? = some n2 := by rfl) (hv2 : Vis X.env.scope n2 := by first | exact Or.inl rfl | exact Or.inr (Or.inl rfl) | exact Or.inr (Or.inr rfl)) (hd2 : (n2 == ("__debug__" : Str)) = false := by decide) (hc2 : (n2 == ("__classdict__" : Str)) = false := by decide)
    (hNs : X.N[s]? = some ns := by rfl) (hvs : Vis X.env.scope ns := by first | exact Or.inl rfl | exact Or.inr (Or.inl rfl) | exact Or.inr (Or.inr rfl)) (hds : (ns == ("__debug__" : Str)) = false := by decide) (hcs : (ns == ("__classdict__" : Str)) = false := by decide)
    (hNa : X.N[a]? = some na := by rfl) (hva : Vis X.env.scope na := by first | exact Or.inl rfl | exact Or.inr (Or.inl rfl) | exact Or.inr (Or.inr rfl)) (hda : (na == ("__debug__" : Str)) = false := by decide) (hca : (na == ("__classdict__" : Str)) = false := by decide)
    (hls : Loc X.env.scope ns := by first | exact Or.inl rfl | exact Or.inr rfl) (fs : X.fn ns = true ∨ X.env.scope.names.lookup ns = some .local := by first | exact .inl rfl | exact .inr rfl)
    (hla : Loc X.env.scope na := by first | exact Or.inl rfl | exact Or.inr rfl) (fa : X.fn na = true ∨ X.env.scope.names.lookup na = some .local := by first | exact .inl rfl | exact .inr rfl)
    (hg : Gl X f := by rfl) (hdb : (f == ("__debug__" : Str)) = false := by decide)
    (st1 : starEach [.Name nr q1, .List [.Name n1 q2, .Name n2 q3] q4] X.env = (false, eval (.Name nr q1) X.env) :: starEach [.List [.Name n1 q2, .Name n2 q3] q4] X.env := by rfl) (st2 : starEach [.List [.Name n1 q2, .Name n2 q3] q4] X.env = (false, eval (.List [.Name n1 q2, .Name n2 q3] q4) X.env) :: starEach [] X.env := by rfl)
    (st3 : starEach [.Name n1 q2, .Name n2 q3] X.env = (false, eval (.Name n1 q2) X.env) :: starEach [.Name n2 q3] X.env := by rfl) (st4 : starEach [.Name n2 q3] X.env = (false, eval (.Name n2 q3) X.env) :: starEach [] X.env := by rfl) (hpl : (backTo pos (starEach [.List [.Name n1 q2, .Name n2 q3] q4] X.env)).any (·.1) = false := by rfl)
    (sw1 : swapsWithSole [.Name ns q5] (.Call (.Name f q6) [.Name nr q1, .List [.Name n1 q2, .Name n2 q3] q4] [] pos) pos1.line X.env = pure false := by rfl) (sv1 : swappedStores [.Name ns q5] (.Call (.Name f q6) [.Name nr q1, .List [.Name n1 q2, .Name n2 q3] q4] [] pos) X.env = pure none := by rfl) (as1 : (assignEach [.Name ns q5] X.env).map (·.2) = [assign (.Name ns q5) X.env] := by rfl)
    (sw2 : swapsWithSole [.Name na q7] e2 pos2.line X.env = pure false := by rfl) (sv2 : swappedStores [.Name na q7] e2 X.env = pure none := by rfl) (as2 : (assignEach [.Name na q7] X.env).map (·.2) = [assign (.Name na q7) X.env] := by rfl)
    (ha : ∀ v, assign (.Subscript (.Name ns q8) (.Name na q9) q10) X.env v = (do
      let ov ← holding [v] (eval (.Name ns q8) X.env)
      let iv ← holding [v, ov] (eval (.Name na q9) X.env)
      standAt q10
      holding [v, ov, iv] (setItem ov iv v)
      release [v, ov, iv] []) := by intro _; rfl) (sw3 : swapsWithSole [.Subscript (.Name ns q8) (.Name na q9) q10] e3 pos3.line X.env = pure false := by rfl) (sv3 : swappedStores [.Subscript (.Name ns q8) (.Name na q9) q10] e3 X.env = pure none := by rfl)
    (as3 : (assignEach [.Subscript (.Name ns q8) (.Name na q9) q10] X.env).map (·.2) = [assign (.Subscript (.Name ns q8) (.Name na q9) q10) X.env] := by rfl) :
    DSts X c (.Assign [.Name ns q5] (.Call (.Name f q6) [.Name nr q1, .List [.Name n1 q2, .Name n2 q3] q4] [] pos) pos1 :: .Assign [.Name na q7] e2 pos2 :: .Assign [.Subscript (.Name ns q8) (.Name na q9) q10] e3 pos3 :: rest) (sSeq (sPick3 r0 i1 i2 s a t2 t3) u) := by
  subst hT
  obtain ⟨fa', fd, FN, hm, hk, hb⟩ := G.ex
  have hK := B.hK
  refine (pss_cons (ps_asg (pe_call FN (B.room.mono hj) hg hm hk hb .nil B.px (pa_cons (pe_var hN0 hv0 hd0 hc0) (pa_cons (pe_lst (pa_cons (pe_var hN1 hv1 hd1 hc1) (pa_cons (pe_var hN2 hv2 hd2 hc2) pa_nil st4) st3)) pa_nil st2) st1) hdb st1 hpl) (pg_name B.nd hNs hls fs) sw1 sv1 as1)
    (pss_cons (ps_asg he2 (pg_name B.nd hNa hla fa) sw2 sv2 as2)
    (pss_cons (ps_asg he3 (pg_sub (pe_var hNs hvs hds hcs) (pe_var hNa hva hda hca) set_list ha) sw3 sv3 as3) hr))).imp fun De σ H h => ?_
  obtain ⟨F, S, E, r, ⟨⟨hsl, hal⟩, hrow, h⟩, kk⟩ := h
  obtain ⟨xs, es1, h⟩ := ownS_ex h
  obtain ⟨ys, es2, b1, b2⟩ := ownS_ex h
  obtain ⟨p1, vs1, o1, _⟩ := own_of r es1
  obtain ⟨p2, vs2, o2, _⟩ := own_of r es2
  have q0 := r.slot r0
  rw [hrow] at q0
  obtain ⟨v0, o0, ev0⟩ := q0
  have ev0 : v0 = .ref c.pr := ev0
  subst ev0
  have br : ∀ (i : Nat) (xs : List D) (p : Addr), i ≠ s → i ≠ a → getS S i = .own xs → σ[i]? = some (some (.ref p)) → pickBr i s a t2 t3 xs { E with nx := u E } S → ∀ H', Rep c F S σ H' →
      tSeq (tAsg (LE c t2) (gName a)) (tSeq (tAsg (LE c t3) (gSub (tVar s) (tVar a) rSetL)) (LS c u)) De (σ.set s (some (.ref p))) H' := fun i xs p is ia es oi hb H' r0 => by
    have r1 := r0.setU s (.ref p)
    have hsσ : s < σ.length := by rw [← r.len]; exact hsl
    have r2 := r1.alias (i := i) (j := s) (xs := xs) (p := p) is (by rw [getS_set_ne (Ne.symm is)]; exact es) (getS_un S s) (by rw [List.length_set]; exact hsl) (by rw [List.getElem?_set_ne (Ne.symm is)]; exact oi) (by rw [List.getElem?_set_self hsσ])
    refine ⟨F, _, _, r2, hb, fun d S1 v F2 H2 q n2 r3 rv => ?_⟩
    obtain ⟨rfl, q⟩ := q
    have r4 := r3.setN (i := a) (x := .dat d) (v := v) (H0 := H2) ⟨⟨v, rfl, rv⟩, trivial⟩
    refine ⟨F2, _, _, r4, q, fun z S3 w F3 H3 q n5 r5 rz => ?_⟩
    obtain ⟨rfl, q⟩ := q
    cases d with
    | int j =>
      obtain ⟨m, hm, q⟩ := q
      have ev : v = .int j := rv
      subst ev
      have sa : s ≠ a := d1.2.2
      have gs : getS (((((S.set s .un).set i .un).set s (.own xs)).set a (.dat (.int j)))) s = .own xs := by
        rw [getS_set_ne (Ne.symm sa), getS_set_self (by rw [List.length_set, List.length_set]; exact hsl)]
      obtain ⟨p', ws, e2, hH, rl, _⟩ := own_of r5 gs
      have e3 : ((σ.set s (some (V.ref p))).set a (some (V.int j)))[s]? = some (some (.ref p)) := by
        rw [List.getElem?_set_ne (Ne.symm sa), List.getElem?_set_self hsσ]
      rw [e3] at e2
      cases e2
      have al : a < (σ.set s (some (V.ref p))).length := by rw [List.length_set, ← r.len]; exact hal
      refine ⟨_, e3, .int j, List.getElem?_set_self al, _, ws, j, m, rfl, rfl, hH, by rw [rl.length]; exact ixD_N hm, ?_⟩
      have r6 := r5.mut gs e3 hH (rl.set m rz)
      have r7 := r6.alias (i := s) (j := i) (xs := xs.set m z) (p := p) (Ne.symm is) (getS_set_self (by simp only [List.length_set]; exact hsl)) (by
        rw [getS_set_ne (Ne.symm is), getS_set_ne (Ne.symm ia), getS_set_ne (Ne.symm is), getS_un]) (by simp only [List.length_set]; exact getS_own_lt es) e3 (by rw [List.getElem?_set_ne (Ne.symm ia), List.getElem?_set_ne (Ne.symm is)]; exact oi)
      exact ⟨F3, _, E, r7, q, kk.mono (n2.le.trans n5.le)⟩
    | _ => exact (show False from q).elim
  refine ⟨_, o0, _, o1, _, o2, ?_, fun l hl => ?_⟩
  · exact line_le (show 2 ≤ 1000000 by decide)
  · obtain ⟨_, r1⟩ := r.fresh (o := .lst [.ref p1, .ref p2]) hl
    refine ⟨c.pr, c.ps, c.xs, l, [.ref p1, .ref p2], rfl, hK ▸ r1.amb, upd_same, r.nepr hl, by simp, (show 2 ≤ 1000000 by decide), fun w hw H' kp am => ?_⟩
    obtain ⟨_, r2⟩ := r1.kept kp (hK ▸ am) ⟨fun b o e => kp.kp b o (r1.fz.le b o e) (fun z => by rw [z, r1.fz.npr] at e; cases e) (r1.fz.ntb b o e), r1.fz.npr, r1.fz.ntb⟩ (.refl _ _)
    rcases List.mem_cons.mp hw with rfl | hw
    · exact br i1 xs p1 d1.1.1 d1.1.2 es1 o1 b1 H' r2
    · rw [List.mem_singleton.mp hw]
      exact br i2 ys p2 d1.2.1.1 d1.2.1.2 es2 o2 b2 H' r2
end
end DL

set_option Elab.async false
set_option linter.all false
set_option maxRecDepth 100000
set_option maxHeartbeats 4000000
/-! sum of a tuple of whole numbers. -/
namespace DL
open PySem PySem.Spec PyProof.Rows L2
section
variable {X : Cx} {c : Cd}
theorem cr_sumT (hc : X.calm = true) : CallR X (.builtin "sum") (fun vs H Q => ∃ (a : Addr) (ns : List Int), vs = [V.ref a] ∧ SqT X.K H a (ns.map V.int) ∧ Q (.int ns.sum) H) := by
  intro pins s σ H vs us Q I r h
  obtain ⟨a, ns, rfl, hs, q⟩ := h
  obtain ⟨its, rv, ⟨o, ho, hcl, n, hd⟩, _⟩ := I.tuple hs
  rw [Vals.ref1 r]
  have hi := rv.ints
  obtain ⟨xs, e⟩ := hi.allInts.items
  have hn : numsOf (intItems xs).toList = ns := by rw [← e]; exact hi.numsOf
  rw [nums_intItems] at hn
  refine PySem.W.ktm_sumG (t := a) (xs := xs) (I.ok.hd hc) ⟨o, ho, hcl, n, by rw [hd, e]⟩ fun h' tk t' hk => ?_
  rw [preSum_eq, List.take_of_length_le (by simp), hn]
  exact ⟨.int _, H, I.kept hk, ⟨_, rfl⟩, q⟩
theorem b_sumT (hc : X.calm = true) : CallR X (.builtin "sum") (LNv c sumT) := CallR.imp (cr_sumT hc) fun xs H Q h => by
  obtain ⟨F, ds, R, fz, np, p, q, k⟩ := h
  match ds, q with
  | [.tup ys], q =>
    obtain ⟨v, rfl, p1⟩ := pks1 p
    rw [sumT_e] at q
    obtain ⟨ns, rfl, q⟩ := q
    obtain ⟨a, vs, rfl, h1, rl, _⟩ := p1.sqt (K := X.K) fz
    rw [rl.ints] at h1
    exact ⟨a, ns, rfl, h1, k _ _ _ _ q (.refl _) (.refl _ _) fz rfl⟩
  | [.non], q | [.bl _], q | [.int _], q | [.str _], q | [.dI _], q | [.dT _], q | [.row], q | [.lst _], q | [.cel _], q => exact q.elim
  | [], q => exact q.elim
  | d :: _ :: _, q => cases d <;> exact q.elim
end
end DL

set_option Elab.async false
set_option linter.all false
set_option maxRecDepth 100000
set_option maxHeartbeats 4000000
namespace DL
open PySem PySem.Spec PyProof.Rows L2
theorem rowOk {K : PySem.W.Frag} {T : List (Addr × Str)} {pr ps : Addr} {xs : List Int} {H : Hp} (am : Amb K T pr ps xs H) {i s b : Int} (h : 0 ≤ i) {F : Hp} (fz : Fz pr F H) : Amb K T pr ps xs (upd H pr (.lst [.ref ps, .int i, .int s, .int b])) ∧ Keep pr H (upd H pr (.lst [.ref ps, .int i, .int s, .int b])) ∧ Fz pr F (upd H pr (.lst [.ref ps, .int i, .int s, .int b])) ∧ Gr F H F := by
  obtain ⟨⟨i0, s0, b0, e1, r⟩, sc, tb⟩ := am
  have k : Keep pr H (upd H pr (.lst [.ref ps, .int i, .int s, .int b])) := ⟨fun b o h n _ => by rw [upd_ne n]; exact h, fun b hb => by
    by_cases hp : b = pr
    · subst hp; exact not_nn upd_same lst_nt
    · obtain ⟨o, h, t⟩ := nn_ex hb
      exact not_nn (by rw [upd_ne hp]; exact h) t⟩
  refine ⟨⟨⟨i, s, b, upd_same, h⟩, ?_, fun q hq => ?_⟩, k, fz.keep k, .refl _ _⟩
  · rcases sc with (sc | ⟨o, sc⟩) | sc
    · have ne : ps ≠ pr := fun z => by
        rw [z, e1] at sc
        cases xs <;> cases sc
      exact .inl (.inl (by rw [upd_ne ne]; exact sc))
    · have ne : ps ≠ pr := fun z => by
        rw [z, e1] at sc
        cases sc
      exact .inl (.inr ⟨o, by rw [upd_ne ne]; exact sc⟩)
    · exact .inr sc
  · obtain ⟨ps', h1, h2, h3⟩ := tb q hq
    have n1 : q.1 ≠ pr := fun z => by rw [z, e1] at h1; cases h1
    refine ⟨ps', by rw [upd_ne n1]; exact h1, h2, fun pos cv hc => ?_⟩
    obtain ⟨c', e1', e2'⟩ := h3 pos cv hc
    have n3 : c' ≠ pr := fun z => by
      rw [z, e1] at e2'
      exact lst_nc _ (Option.some.inj e2')
    exact ⟨c', e1', by rw [upd_ne n3]; exact e2'⟩
theorem atI0 {α : Type} (a : α) (l : List α) : atI (a :: l) (0 : Int) = some a := atI_nat (j := 0) rfl
theorem atI1 {α : Type} (a b : α) (l : List α) : atI (a :: b :: l) (1 : Int) = some b := atI_nat (j := 1) rfl
theorem atI2 {α : Type} (a b c : α) (l : List α) : atI (a :: b :: c :: l) (2 : Int) = some c := atI_nat (j := 2) rfl
theorem atI3 {α : Type} (a b c d : α) (l : List α) : atI (a :: b :: c :: d :: l) (3 : Int) = some d := atI_nat (j := 3) rfl
theorem callee_no {P : Program} {w : World} {K : PySem.W.Frag} {mg : Str → Option Value} {base : Heap} {T : List (Addr × Str)} {CB : Addr} {x : Str} {st : Stmt} {f : Addr} {fd : FuncData} {N ps : List Str} {s : DSp} (F : Fun K x x st f fd) (S : FnScope N ps (defScope st)) (hm : mg x = some (.ref f)) (hb : Binds K fd ps []) (no : ∀ ds Q E, ¬ s ds Q E) : Callee P w K mg base T CB x 1 ps s :=
  ⟨f, fd, F.okX S (fun vs H Q E ⟨pr, p2, xs, F, ds, R0, E0, am, fz, rl, h, _⟩ => (no _ _ _ h).elim) (fun cdv A outer s0 H vs Q E hr ⟨pr, p2, xs, F, ds, R0, E0, am, fz, rl, h, kq, ke⟩ => (no _ _ _ h).elim), hm, F.kp, hb, by obtain ⟨oc, od, kV, doc, pm, an, cdv, ct, osl, rfl, lk, _⟩ := F.ex; exact ⟨_, _, _, lk⟩⟩
end DL

set_option Elab.async false
set_option linter.all false
set_option maxRecDepth 100000
set_option maxHeartbeats 4000000

namespace DL
open PySem
local macro_rules | `(tactic| l_fact) => `(tactic| try simp only [x_addW_i, x_addW_t, x_catW_l, x_addI_i, x_subW_i, x_mulW_i, x_mulW_t, x_repW_l, x_fdivW_i, x_modW_i, x_shlW_i, x_shrW_i, x_andW_i, x_orW_i, x_xorW_i, x_negW_i, x_ltW_i, x_leW_i, x_gtW_i, x_geW_i, x_isW_b, x_isnW_b, x_isW_n_non, x_isnW_n_non, x_isPl_non, x_isiB_non_int, x_isiB_non_bool, x_isiB_non_tuple, x_isiB_non_str, x_isW_n_bl, x_isnW_n_bl, x_isPl_bl, x_isiB_bl_int, x_isiB_bl_bool, x_isiB_bl_tuple, x_isiB_bl_str, x_isW_n_int, x_isnW_n_int, x_isPl_int, x_isiB_int_int, x_isiB_int_bool, x_isiB_int_tuple, x_isiB_int_str, x_isW_n_str, x_isnW_n_str, x_isPl_str, x_isiB_str_int, x_isiB_str_bool, x_isiB_str_tuple, x_isiB_str_str, x_isW_n_tup, x_isnW_n_tup, x_isPl_tup, x_isiB_tup_int, x_isiB_tup_bool, x_isiB_tup_tuple, x_isiB_tup_str, x_isW_n_lst, x_isnW_n_lst, x_isPl_lst, x_isiB_lst_int, x_isiB_lst_bool, x_isiB_lst_tuple, x_isiB_lst_str, x_isPl_row, x_isPl_dI, x_isPl_dT, x_isiW_e, x_eqW_e, x_neW_e, x_truW_b, x_truW_i, x_truW_l, x_truW_t, x_truW_n, x_ixS_l, x_ixS_t, x_okO_s, x_slT_t, x_slL_l, x_len1_l, x_len1_t, x_max2_i, x_min2_i, x_abs1_i, x_int1_i, x_max1_l, x_min1_l, x_sum1_l, x_all1_l, x_any1_l, x_tuple1_l, x_tuple1_t, x_list1_l, x_list1_t, x_itW_l, x_itW_t, x_rg1_i, x_rg2_i, x_rg3_m, x_rg3_2, x_val_dat, x_val_own, x_val_un, x_val_ownI, x_okV_dat, x_okV_slot, x_okVs_n, x_okVs_c, x_getS_0, x_getS_s, x_wVar_e, x_varS_dat, x_varS_own, x_varS_ownI, x_wSlot_e, x_slotS_s, x_tBl_e, x_blS_b, x_wAndV_e, x_wOrV_e, x_wNotV_e, x_wChain_e, x_bTup_t, x_bNil_n, x_bCons_c, x_sAug_e, x_augS_d, x_wOS_e, x_intS_i, x_ownS_o, x_lstS_l, x_forD_n, x_lcD_n, x_lcD_c, x_sh_un, x_sh_dat, x_sRaise_e, x_strS_s, x_hideV_d, x_hideV_u, x_hideV_o, y_sSeq, y_sNext, y_sRet, y_sDrop, y_sIf, y_sBreak, y_sSet, y_sAsg, y_sPar, y_setAll_c, y_setAll_n, y_sAug', y_sFor, y_wC, y_wD, y_wSs0, y_wSs, y_wA0, y_wAs, y_wOp, y_wUn, y_wB, y_wOpL, y_wBL, y_wLst, y_wFz, y_wTup, y_wCall, y_wIf, y_wNd, y_wNo, y_wNs0, y_wNs, y_tTru, y_tAnd, y_tOr, y_tNot, y_wNotT, y_bName, y_iSeq, y_iR1, y_iR2, y_iR3, y_iEnum, y_iZip, y_depS_d, y_depS_s, y_wLc, y_wIsi, y_wON, y_wSlT, y_wSlL, y_ts0, y_lcStep, y_wipeS_n, y_wipeS_c, y_wRef, y_hideS_n, y_hideS_c, y_wCallK, y_sAppend, y_sExtend, y_sStore, y_wUnL, x_set0, x_setS, decide_eq_true_eq, Bool.not_eq_true', decide_eq_false_iff_not, List.map_cons, List.cons_append, List.nil_append, List.length_cons, List.length_nil, List.map_nil, ite_true, ite_false, Bool.false_eq_true, true_and, and_true, Bool.not_true, Bool.not_false, List.all_cons, List.all_nil, Bool.and_true, Bool.and_self, List.contains_cons, List.contains_nil, Nat.reduceBEq, Bool.or_false, Bool.false_or, Bool.or_self, Option.toList_some, Option.toList_none, inW2_l, ninW2_l, inW2_t, ninW2_t, mulW2_i, mulW2_t, sorted1_l, sorted1_t, tupRg_i, sRemove_e, wPopAt_e, lc2Step_e, wLc2_e, min1P_l, slS_t, slLS_l, slW_i, slLW_i, val_ownT2, varS_ownT2, hideV_ownI2, hideV_ownT2, dgW_i, dgW_t, dinW_i, dinW_t, dninW_i, dninW_t, isDc_i, isDc_t, dgetW_i, dgetW_t, wGet_e, dIS_i, wNewI_e, wNewT_e, wCopyI_e, wDisp1_e, wNoI_e, wFzI_e, ownIS_o, ownTS_o, tupS_t, sPutI_e, sPutT_e, iDk_e, sorted1D_i, wIfL_e, isLs_l, idxW_l, wIdx_e, celOfW_t, celOfW_l, wCelOf_e, wCelLst_e, celIxW_i, celTupW_i, celS_o, sCelSet_e, flatD_cel, flatD_int, wCallO_e])

/-- an if: its test by itself -/
theorem sIf_to {c : WT} {t u : WS} {E : En} {S : Sl} (P : Bool → Sl → Prop) (hc : ∀ R : Bool → Sl → Prop, (∀ b S', P b S' → R b S') → c S R) (ht : ∀ S', P true S' → t E S') (hu : ∀ S', P false S' → u E S') : sIf c t u E S :=
  hc _ fun b S' h => by
    cases b with
    | true => exact ht S' h
    | false => exact hu S' h
theorem bT2 (i j : Nat) (a b : D) (S : Sl) (R : Sl → Prop) : bTup 2 (bCons (bName i) (bCons (bName j) bNil)) (.tup [a, b]) S R = R ((S.set i (.dat a)).set j (.dat b)) := by
  simp [x_bTup_t, x_bCons_c, x_bNil_n, y_bName]
theorem bT3 (i j k : Nat) (a b c : D) (S : Sl) (R : Sl → Prop) : bTup 3 (bCons (bName i) (bCons (bName j) (bCons (bName k) bNil))) (.tup [a, b, c]) S R = R (((S.set i (.dat a)).set j (.dat b)).set k (.dat c)) := by
  simp [x_bTup_t, x_bCons_c, x_bNil_n, y_bName]
theorem flat_bound {α β : Type} (f : α → List β) (c : Nat) : ∀ {ys : List α}, (∀ y ∈ ys, (f y).length ≤ c) → (ys.flatMap f).length ≤ ys.length * c
  | [], _ => by simp
  | y :: r, h => by
    have := flat_bound f c (ys := r) fun z hz => h z (List.mem_cons_of_mem _ hz)
    have := h y List.mem_cons_self
    rw [List.flatMap_cons, List.length_append, List.length_cons, Nat.add_mul]
    omega
/-- a loop that makes a list longer, turn by turn -/
theorem forD_flat {α β : Type} {g : WG} {b : WS} {E : En} (enc : α → D) (f : α → List β) (St : List β → Sl → Prop) (c : Nat) {ys : List α} {acc : List β} {S : Sl} (hc : ∀ y ∈ ys, (f y).length ≤ c) (h0 : St acc S)
    (step : ∀ y ∈ ys, ∀ (a : List β) (S : Sl) (K : Sl → Prop), a.length ≤ acc.length + ys.length * c → St a S → (∀ S', St (a ++ f y) S' → K S') → g (enc y) S fun S1 => b { E with nx := K, ct := K, bk := E.nx } S1)
    (fin : ∀ S, St (acc ++ ys.flatMap f) S → E.nx S) : forD g b E (ys.map enc) S := by
  refine forD_ind (fun i S => St (acc ++ (ys.take i).flatMap f) S) (by simpa using h0) (fun i x S K hx hI hK => ?_) (fun S hI => ?_)
  · obtain ⟨y, hy, rfl⟩ := map_at hx
    have hi := (List.getElem?_eq_some_iff.mp hy).1
    refine step y (List.mem_of_getElem? hy) _ S K ?_ hI fun S' h => hK S' ?_
    · have := flat_bound f c (ys := ys.take i) fun z hz => hc z (List.mem_of_mem_take hz)
      have l : (ys.take i).length * c ≤ ys.length * c := Nat.mul_le_mul_right _ (by rw [List.length_take]; omega)
      rw [List.length_append]
      omega
    · rw [take_at hy, List.flatMap_append, List.flatMap_singleton, ← List.append_assoc]
      exact h
  · rw [List.length_map, List.take_length] at hI
    exact fin S hI
theorem rg_len (lo : Int) (n : Nat) : (rg lo n).length = n := by simp [rg]
theorem cut_toD (xs : List D) (n : Nat) : cutD xs none (some (n : Int)) = xs.take n := by
  unfold cutD
  rw [HT.sIx_none, HT.sIx_nat, List.drop_zero, Nat.sub_zero]
  by_cases h : n ≤ xs.length
  · rw [Nat.min_eq_left h]
  · rw [Nat.min_eq_right (by omega), List.take_length, List.take_of_length_le (by omega)]
theorem cut_fromD (xs : List D) (n : Nat) : cutD xs (some (n : Int)) none = xs.drop n := by
  unfold cutD
  rw [HT.sIx_none, HT.sIx_nat]
  by_cases h : n ≤ xs.length
  · rw [Nat.min_eq_left h, List.take_of_length_le (by simp)]
  · rw [Nat.min_eq_right (by omega), List.drop_of_length_le (by omega), List.drop_of_length_le (by omega), List.take_nil]
theorem lcD_sel {α : Type} {st : D → (Option D → Prop) → Prop} {k : List D → Prop} (g : α → D) (p : α → Bool) (f : α → D) {ys : List α} (h : ∀ y ∈ ys, ∀ k : Option D → Prop, (if p y = true then k (some (f y)) else k none) → st (g y) k) (hk : k ((ys.filter p).map f)) : lcD st (ys.map g) k := by
  refine lcD_map g (fun y => if p y = true then some (f y) else none) (fun y hy k hk => h y hy k ?_) ?_
  · by_cases q : p y = true
    · rw [if_pos q] at hk ⊢
      exact hk
    · rw [if_neg q] at hk ⊢
      exact hk
  · have e : ∀ ys : List α, ys.filterMap (fun y => if p y = true then some (f y) else none) = (ys.filter p).map f := fun ys => by
      induction ys with
      | nil => rfl
      | cons y ys ih =>
        by_cases q : p y = true
        · rw [List.filterMap_cons_some (b := f y) (by rw [if_pos q]), List.filter_cons_of_pos q, List.map_cons, ih]
        · rw [List.filterMap_cons_none (by rw [if_neg q]), List.filter_cons_of_neg q, ih]
    rw [e]
    exact hk
theorem lc2D_fun {α : Type} {st : D → (List D → Prop) → Prop} (g : α → D) (f : α → List D) : ∀ {ys : List α} {k : List D → Prop}, (∀ y ∈ ys, ∀ k, k (f y) → st (g y) k) → k (ys.flatMap f) → lc2D st (ys.map g) k
  | [], _, _, hk => hk
  | y :: ys, _, h, hk => h y List.mem_cons_self _ (lc2D_fun g f (fun z hz => h z (List.mem_cons_of_mem _ hz)) hk)
theorem cutD_sub (xs : List D) (lo hi : Option Int) : (cutD xs lo hi).Sublist xs := by
  unfold cutD
  exact (List.take_sublist _ _).trans (List.drop_sublist _ _)
theorem ints_inj : ∀ {s t : List Int}, s.map D.int = t.map D.int → s = t
  | [], [], _ => rfl
  | [], _ :: _, h => by cases h
  | _ :: _, [], h => by cases h
  | x :: s, y :: t, h => by
    rw [List.map_cons, List.map_cons] at h
    injection h with h1 h2
    injection h1 with h1
    rw [ints_inj h2, h1]
theorem getD_at {α : Type} {xs : List α} {i : Nat} {x d : α} (h : xs[i]? = some x) : xs.getD i d = x := by
  rw [List.getD_eq_getElem?_getD, h]
  rfl
theorem at_getD {α : Type} {xs : List α} {i : Nat} (d : α) (h : i < xs.length) : xs[i]? = some (xs.getD i d) := by
  rw [List.getD_eq_getElem?_getD, List.getElem?_eq_getElem h]
  rfl
theorem getD_mem {js : List Nat} {i : Nat} (h : i < js.length) : js.getD i 0 ∈ js := List.mem_of_getElem? (at_getD 0 h)
theorem at_snoc {α : Type} {xs : List α} {x y : α} {i : Nat} (h : (xs ++ [x])[i]? = some y) : xs[i]? = some y ∨ (i = xs.length ∧ y = x) := by
  rcases Nat.lt_trichotomy i xs.length with w | w | w
  · rw [List.getElem?_append_left w] at h
    exact .inl h
  · subst w
    rw [List.getElem?_append_right (Nat.le_refl _), Nat.sub_self] at h
    exact .inr ⟨rfl, (Option.some.inj h).symm⟩
  · rw [List.getElem?_eq_none (by simp; omega)] at h
    cases h
theorem at_left {α : Type} {xs : List α} {x y : α} {i : Nat} (h : xs[i]? = some y) : (xs ++ [x])[i]? = some y := by
  rw [List.getElem?_append_left (List.getElem?_eq_some_iff.mp h).1]
  exact h
theorem at_last {α : Type} (xs : List α) (x : α) : (xs ++ [x])[xs.length]? = some x := by
  rw [List.getElem?_append_right (Nat.le_refl _), Nat.sub_self]
  rfl
def encJ (js : List Nat) : List D := js.map fun j : Nat => D.int (j : Int)
theorem encJ_len (b : List Nat) : (encJ b).length = b.length := by unfold encJ; rw [List.length_map]
theorem encJ_map (js : List Nat) : (js.map fun j : Nat => (j : Int)).map D.int = encJ js := by
  unfold encJ
  rw [List.map_map]
  rfl
theorem encJ_ints (js : List Nat) : encJ js = (js.map fun j : Nat => (j : Int)).map D.int := (encJ_map js).symm
theorem encJ_int (js : List Nat) : encJ js = (js.map fun j : Nat => (j : Int)).map D.int := by
  unfold encJ
  rw [List.map_map]
  rfl
theorem encJ_inj : ∀ {s t : List Nat}, encJ s = encJ t → s = t
  | [], [], _ => rfl
  | [], _ :: _, h => by cases h
  | _ :: _, [], h => by cases h
  | x :: s, y :: t, h => by
    unfold encJ at h
    rw [List.map_cons, List.map_cons] at h
    injection h with h1 h2
    injection h1 with h1
    rw [encJ_inj (s := s) (t := t) h2, Int.ofNat.inj h1]
theorem mapI_inj : ∀ {s t : List Nat}, (s.map fun j : Nat => D.int (j : Int)) = (t.map fun j : Nat => D.int (j : Int)) → s = t
  | [], [], _ => rfl
  | [], _ :: _, h => by cases h
  | _ :: _, [], h => by cases h
  | x :: s, y :: t, h => by
    rw [List.map_cons, List.map_cons] at h
    injection h with h1 h2
    injection h1 with h1
    rw [mapI_inj h2, Int.ofNat.inj h1]
theorem nats_of : ∀ {ns : List Int}, (∀ z ∈ ns, 0 ≤ z) → ∃ js : List Nat, ns = js.map fun j : Nat => (j : Int)
  | [], _ => ⟨[], rfl⟩
  | z :: ns, h => by
    obtain ⟨js, e⟩ := nats_of (ns := ns) fun y hy => h y (List.mem_cons_of_mem _ hy)
    have := h z List.mem_cons_self
    refine ⟨z.toNat :: js, ?_⟩
    rw [List.map_cons, ← e, Int.toNat_of_nonneg this]
theorem atJ {js : List Nat} {i : Nat} (h : i < js.length) : atD (encJ js) (i : Int) = some (.int (js.getD i 0 : Nat)) := by
  refine atD_nat ?_
  unfold encJ
  rw [List.getElem?_map, at_getD 0 h]
  rfl
theorem atG {xs : List Int} {i : Nat} (h : i < xs.length) : atD (xs.map D.int) (i : Int) = some (.int (xs.getD i 0)) := by
  refine atD_nat ?_
  rw [List.getElem?_map, List.getElem?_eq_getElem h, List.getD_eq_getElem?_getD, List.getElem?_eq_getElem h]
  rfl
theorem enumI (xs : List Int) : enumD (xs.map D.int) = (List.range xs.length).map fun i : Nat => D.tup [.int (i : Int), .int (xs.getD i 0)] := by
  unfold enumD
  refine List.ext_getElem (by simp) fun i h1 h2 => ?_
  simp at h1
  rw [List.getElem_map, List.getElem_map, List.getElem_zipIdx, List.getElem_range, List.getElem_map, List.getD_eq_getElem?_getD, List.getElem?_eq_getElem h1, Nat.zero_add]
  rfl
theorem sh_I (ps : List Int) (n : Nat) : Sh (n + 1) (.tup (ps.map D.int)) := by
  simp only [sh_tup, List.forall_mem_map]
  simp
theorem sh_J (js : List Nat) (n : Nat) : Sh (n + 1) (.tup (encJ js)) := by
  unfold encJ
  simp only [sh_tup, List.forall_mem_map]
  simp
theorem rep_eq (n : Nat) (x : D) : (List.replicate n [x]).flatten = List.replicate n x := by
  induction n with
  | zero => rfl
  | succ n ih => rw [List.replicate_succ, List.flatten_cons, ih]; rfl
theorem len_same {α : Type} {a b : List α} (ha : a.Nodup) (hb : b.Nodup) (h : ∀ x, x ∈ a ↔ x ∈ b) : a.length = b.length :=
  Nat.le_antisymm (ha.length_le_of_subset fun x hx => (h x).mp hx) (hb.length_le_of_subset fun x hx => (h x).mpr hx)
theorem dedup_ex : ∀ zs : List Int, ∃ es : List Int, es.Nodup ∧ (∀ k, k ∈ es ↔ k ∈ zs) ∧ es.length ≤ zs.length ∧ (¬ zs.Nodup → es.length < zs.length)
  | [] => ⟨[], List.nodup_nil, fun _ => Iff.rfl, Nat.le_refl _, fun h => (h List.nodup_nil).elim⟩
  | z :: zs => by
    obtain ⟨es, h1, h2, h3, h4⟩ := dedup_ex zs
    by_cases q : z ∈ zs
    · refine ⟨es, h1, fun k => ?_, by simp; omega, fun _ => by simp; omega⟩
      rw [h2, List.mem_cons]
      exact ⟨.inr, fun w => w.elim (fun e => e ▸ q) id⟩
    · refine ⟨z :: es, List.nodup_cons.mpr ⟨fun w => q ((h2 z).mp w), h1⟩, fun k => ?_, by simp; omega, fun w => ?_⟩
      · rw [List.mem_cons, List.mem_cons, h2]
      · have := h4 fun nd => w (List.nodup_cons.mpr ⟨q, nd⟩)
        simp
        omega
theorem perm_range {n : Nat} {js : List Nat} (nd : js.Nodup) (len : js.length = n) (lt : ∀ j ∈ js, j < n) : js.Perm (List.range n) := by
  refine (List.perm_ext_iff_of_nodup nd List.nodup_range).mpr fun a => ⟨fun w => List.mem_range.mpr (lt a w), fun w => ?_⟩
  refine Classical.byContradiction fun no => ?_
  have := (List.nodup_cons.mpr ⟨no, nd⟩).length_le_of_subset (l₂ := List.range n) fun x hx => by
    rcases List.mem_cons.mp hx with rfl | hx
    · exact w
    · exact List.mem_range.mpr (lt x hx)
  rw [List.length_range, List.length_cons] at this
  omega
theorem map_nodup {f : Nat → Int} (inj : ∀ a b, f a = f b → a = b) {js : List Nat} : (js.map f).Nodup ↔ js.Nodup := by
  show List.Pairwise _ _ ↔ List.Pairwise _ _
  rw [List.pairwise_map]
  exact ⟨fun h => h.imp fun w e => w (by rw [e]), fun h => h.imp fun w e => w (inj _ _ e)⟩
/-- a test whose outcome is known -/
theorem wh_to {c : WT} {S : Sl} {R : Bool → Sl → Prop} (b : Bool) (hc : ∀ R : Bool → Sl → Prop, R b S → c S R) (h : R b S) : c S R := hc R h
theorem sorted_range {fj : List Nat} {n : Nat} {ns : List Int} (p : fj.Perm (List.range n)) (p1 : ns.Perm (fj.map fun j : Nat => (j : Int))) (p2 : ns.Pairwise (· ≤ ·)) : ns = (List.range n).map fun i : Nat => (0 : Int) + (i : Int) := by
  refine List.Perm.eq_of_pairwise (le := (· ≤ ·)) (fun x y _ _ h1 h2 => Int.le_antisymm h1 h2) p2 ?_ (p1.trans ?_)
  · rw [List.pairwise_map]
    exact List.pairwise_lt_range.imp fun w => by omega
  · have := p.map fun j : Nat => (j : Int)
    refine this.trans (List.Perm.of_eq (List.map_congr_left fun j _ => ?_))
    omega
theorem rows_inj : ∀ {s t : List (List Int)}, (s.map fun r => D.tup (r.map D.int)) = (t.map fun r => D.tup (r.map D.int)) → s = t
  | [], [], _ => rfl
  | [], _ :: _, h => by cases h
  | _ :: _, [], h => by cases h
  | x :: s, y :: t, h => by
    rw [List.map_cons, List.map_cons] at h
    injection h with h1 h2
    injection h1 with h1
    rw [rows_inj h2, ints_inj h1]
theorem row_at {cs : List (List Int)} {i : Nat} (h : i < cs.length) : atD (cs.map fun r => D.tup (r.map D.int)) (i : Int) = some (.tup ((cs.getD i []).map D.int)) := by
  refine atD_nat ?_
  rw [List.getElem?_map, at_getD [] h]
  rfl
theorem filterMap_some {α β : Type} {f : α → Option β} {g : α → β} : ∀ {l : List α}, (∀ x ∈ l, f x = some (g x)) → l.filterMap f = l.map g
  | [], _ => rfl
  | x :: l, h => by
    rw [List.filterMap_cons_some (h x List.mem_cons_self), List.map_cons, filterMap_some fun y hy => h y (List.mem_cons_of_mem _ hy)]
theorem stepD_rev (xs : List D) : stepD (-1) xs = xs.reverse := by
  unfold stepD stepP
  rw [if_pos rfl, List.filterMap_map]
  have e : (List.range xs.length).filterMap ((fun k => xs[k]?) ∘ fun k => xs.length - 1 - k) = (List.range xs.length).map fun k => xs.getD (xs.length - 1 - k) .non := by
    refine filterMap_some fun k hk => ?_
    have := List.mem_range.mp hk
    exact at_getD (i := xs.length - 1 - k) _ (by omega)
  rw [e]
  refine List.ext_getElem (by simp) fun i h1 h2 => ?_
  rw [List.length_reverse] at h2
  rw [List.getElem_map, List.getElem_range, List.getElem_reverse]
  exact getD_at (List.getElem?_eq_getElem _)
theorem msk_tail {l : Nat} {r : List Nat} (h : ¬ l ∈ r) : msk (l :: r) ^^^ 2 ^ l = msk r := Nat.eq_of_testBit_eq fun k => by
  rw [Nat.testBit_xor, msk_bit, msk_bit, Nat.testBit_two_pow]
  by_cases e : l = k
  · subst e
    simp [h]
  · rw [decide_eq_false e, Bool.xor_false]
    exact decide_eq_decide.mpr ⟨fun w => (List.mem_cons.mp w).resolve_left fun z => e z.symm, List.mem_cons_of_mem _⟩

def S_require : DSp := fun ds Q E => match ds with
  | [.bl b, .str nm] => (b = true → Q .non) ∧ (b = false → E nm)
  | _ => False
theorem S_require_e (b : Bool) (nm : Str) (Q : D → Prop) (E : Str → Prop) : S_require [.bl b, .str nm] Q E = ((b = true → Q .non) ∧ (b = false → E nm)) := rfl

def w_require (EX : Str → Prop) : WS := sIf (tNot (tTru (wSlot 0))) (sRaise EX (wVar 1)) (sNext)
def N_require : List Str := ["is_right", "name"]
def isWhole : D → Int → Int → Bool
  | .int i, a, b => decide (a ≤ i) && decide (i ≤ b)
  | _, _, _ => false
def S_is_whole : DSp := fun ds Q _ => match ds with
  | [d, .int a, .int b] => isPl d ∧ Q (.bl (isWhole d a b))
  | _ => False
theorem S_is_whole_e (d : D) (a b : Int) (Q : D → Prop) (E : Str → Prop) : S_is_whole [d, .int a, .int b] Q E = (isPl d ∧ Q (.bl (isWhole d a b))) := rfl
theorem isWhole_eq {d : D} {a b : Int} (h : isWhole d a b = true) : ∃ i, d = .int i ∧ a ≤ i ∧ i ≤ b := by
  cases d with
  | int i =>
    have h : (decide (a ≤ i) && decide (i ≤ b)) = true := h
    simp at h
    exact ⟨i, rfl, h⟩
  | _ => exact absurd h (by simp [isWhole])
theorem isWhole_of {i a b : Int} (h1 : a ≤ i) (h2 : i ≤ b) : isWhole (.int i) a b = true := by
  show (decide (a ≤ i) && decide (i ≤ b)) = true
  simp [h1, h2]

def w_is_whole (EX : Str → Prop) : WS := sRet (wAndV (wIsi .int (wSlot 0)) (wAndV (wNotV (wIsi .bool (wSlot 0))) (wChain leW leW (wVar 1) (wVar 0) (wVar 2))))
def N_is_whole : List Str := ["value", "least", "most"]
def isRow : D → Int → Int → Bool
  | .tup xs, a, b => decide (a ≤ (xs.length : Int)) && decide ((xs.length : Int) ≤ b)
  | _, _, _ => false
def S_is_row : DSp := fun ds Q _ => match ds with
  | [d, .int a, .int b] => isPl d ∧ Q (.bl (isRow d a b))
  | _ => False
theorem S_is_row_e (d : D) (a b : Int) (Q : D → Prop) (E : Str → Prop) : S_is_row [d, .int a, .int b] Q E = (isPl d ∧ Q (.bl (isRow d a b))) := rfl

def w_is_row (EX : Str → Prop) : WS := sRet (wAndV (wIsi .tuple (wSlot 0)) (wChain leW leW (wVar 1) (wB len1 (wSs (wSlot 0) (wSs0))) (wVar 2)))
def N_is_row : List Str := ["value", "least", "most"]
def areWholes : D → Int → Int → Int → Bool
  | .tup xs, m, a, b => decide ((xs.length : Int) = m) && xs.all fun x => isWhole x a b
  | _, _, _, _ => false
theorem wholes_eq {xs : List D} {a b : Int} (h : (xs.all fun x => isWhole x a b) = true) : ∃ ns : List Int, xs = ns.map .int ∧ ∀ n ∈ ns, a ≤ n ∧ n ≤ b := by
  induction xs with
  | nil => exact ⟨[], rfl, by simp⟩
  | cons x xs ih =>
    rw [List.all_cons, Bool.and_eq_true] at h
    obtain ⟨i, e, h1, h2⟩ := isWhole_eq h.1
    obtain ⟨ns, e2, hn⟩ := ih h.2
    refine ⟨i :: ns, by rw [e, e2]; rfl, fun n hm => ?_⟩
    rcases List.mem_cons.mp hm with rfl | hm
    · exact ⟨h1, h2⟩
    · exact hn n hm
theorem areWholes_eq {d : D} {m a b : Int} (h : areWholes d m a b = true) : ∃ ns : List Int, d = .tup (ns.map .int) ∧ (ns.length : Int) = m ∧ ∀ n ∈ ns, a ≤ n ∧ n ≤ b := by
  cases d with
  | tup xs =>
    have h : (decide ((xs.length : Int) = m) && xs.all fun x => isWhole x a b) = true := h
    rw [Bool.and_eq_true, decide_eq_true_eq] at h
    obtain ⟨ns, rfl, hn⟩ := wholes_eq h.2
    exact ⟨ns, rfl, by have := h.1; rwa [List.length_map] at this, hn⟩
  | _ => exact absurd h (by simp [areWholes])
theorem areWholes_of {ns : List Int} {m a b : Int} (h1 : (ns.length : Int) = m) (h2 : ∀ n ∈ ns, a ≤ n ∧ n ≤ b) : areWholes (.tup (ns.map .int)) m a b = true := by
  show (decide (((ns.map D.int).length : Int) = m) && (ns.map D.int).all fun x => isWhole x a b) = true
  rw [List.length_map, decide_eq_true h1, Bool.true_and, List.all_map, List.all_eq_true]
  exact fun n hn => isWhole_of (h2 n hn).1 (h2 n hn).2
theorem rows_of {m a b : Int} : ∀ {xs : List D}, (∀ x ∈ xs, areWholes x m a b = true) → ∃ cs : List (List Int), xs = cs.map (fun r => D.tup (r.map D.int)) ∧ ∀ r ∈ cs, (r.length : Int) = m ∧ ∀ z ∈ r, a ≤ z ∧ z ≤ b
  | [], _ => ⟨[], rfl, fun r h => by cases h⟩
  | x :: xs, h => by
    obtain ⟨ns, e, h1, h2⟩ := areWholes_eq (h x List.mem_cons_self)
    obtain ⟨cs, e2, h3⟩ := rows_of (xs := xs) fun y hy => h y (List.mem_cons_of_mem _ hy)
    refine ⟨ns :: cs, by rw [e, e2]; rfl, fun r hr => ?_⟩
    rcases List.mem_cons.mp hr with rfl | hr
    · exact ⟨h1, h2⟩
    · exact h3 r hr
def S_are_wholes : DSp := fun ds Q _ => match ds with
  | [d, .int m, .int a, .int b] => Sh 4 d ∧ Q (.bl (areWholes d m a b))
  | _ => False
theorem S_are_wholes_e (d : D) (m a b : Int) (Q : D → Prop) (E : Str → Prop) : S_are_wholes [d, .int m, .int a, .int b] Q E = (Sh 4 d ∧ Q (.bl (areWholes d m a b))) := rfl

def w_are_wholes (EX : Str → Prop) : WS := sRet (wAndV (wCall S_is_row EX (wAs (wVar 0) (wAs (wVar 1) (wAs (wVar 1) (wA0))))) (wB all1 (wSs (wD (wFz (wLc (iSeq (wSlot 0)) (bName 4) (ts0) (wCall S_is_whole (fun _ => False) (wAs (wVar 4) (wAs (wVar 2) (wAs (wVar 3) (wA0))))) [4]))) (wSs0))))
def N_are_wholes : List Str := ["value", "many", "least", "most", "own"]
def encT (ts : List (List Int)) : D := .tup (ts.map fun r => D.tup (r.map D.int))
/-- the number of orders -/
def wT (ts : List (List Int)) : Nat := (ts.getD 0 []).length
structure OkT (ts : List (List Int)) : Prop where
  len : 1 ≤ ts.length ∧ ts.length ≤ 7
  wid : 1 ≤ wT ts ∧ wT ts ≤ 7
  row : ∀ r ∈ ts, r.length = wT ts ∧ ∀ z ∈ r, -1 ≤ z ∧ z ≤ 999
def IsT (d : D) : Prop := ∃ ts, d = encT ts ∧ OkT ts
theorem encT_inj {s t : List (List Int)} (h : encT s = encT t) : s = t := by
  unfold encT at h
  injection h with h
  exact rows_inj h
theorem sh_encT (ts : List (List Int)) (n : Nat) : Sh (n + 2) (encT ts) := by
  unfold encT
  simp only [sh_tup, List.forall_mem_map]
  simp
theorem OkT.rowlen {ts : List (List Int)} (h : OkT ts) {i : Nat} (hi : i < ts.length) : (ts.getD i []).length = wT ts := (h.row _ (List.mem_of_getElem? (at_getD [] hi))).1
def tv (ts : List (List Int)) (i j : Nat) : Int := (ts.getD i []).getD j 0
theorem cell_at {r : List Int} {j : Nat} (h : j < r.length) : atD (r.map D.int) (j : Int) = some (.int (r.getD j 0)) := atG h
def S_is_table : DSp := fun ds Q _ => match ds with
  | [d] => Sh 5 d ∧ (IsT d → Q (.bl true)) ∧ (¬ IsT d → Q (.bl false))
  | _ => False
theorem S_is_table_e (d : D) (Q : D → Prop) (E : Str → Prop) : S_is_table [d] Q E = (Sh 5 d ∧ (IsT d → Q (.bl true)) ∧ (¬ IsT d → Q (.bl false))) := rfl

def w_is_table (EX : Str → Prop) : WS := sSeq (sIf (tOr (tNot (tTru (wD (wCall S_is_row EX (wAs (wVar 0) (wAs (wC (.int 1)) (wAs (wC (.int 7)) (wA0)))))))) (tNot (tTru (wD (wCall S_is_row EX (wAs (wOp ixS (wSlot 0) (wD (wC (.int 0)))) (wAs (wC (.int 1)) (wAs (wC (.int 7)) (wA0))))))))) (sRet (wC (.bl false))) (sNext))
  (sRet (wB all1 (wSs (wD (wFz (wLc (iSeq (wSlot 0)) (bName 1) (ts0) (wCall S_are_wholes (fun _ => False) (wAs (wVar 1) (wAs (wB len1 (wSs (wD (wOp ixS (wSlot 0) (wD (wC (.int 0))))) (wSs0))) (wAs (wC (.int (-1))) (wAs (wC (.int 999)) (wA0)))))) [1]))) (wSs0))))
def N_is_table : List Str := ["value", "row"]
/-- what a log may be given: an order that it fits, or -1 -/
def okr (row : List Int) (z : Int) : Prop := z = -1 ∨ ∃ j : Nat, z = (j : Int) ∧ j < row.length ∧ 0 ≤ row.getD j 0
/-- the orders of a giving -/
def os (g : List Int) : List Nat := (g.filter fun z => decide (0 ≤ z)).map Int.toNat
def cw (row : List Int) (z : Int) : Int := if 0 ≤ z then row.getD z.toNat 0 else 0
def wr : List (List Int) → List Int → Int
  | row :: rs, z :: g => cw row z + wr rs g
  | _, _ => 0
structure Gv (rs : List (List Int)) (g : List Int) : Prop where
  ok : Fa2 okr rs g
  nd : (os g).Nodup
theorem os_non (g : List Int) : os (-1 :: g) = os g := rfl
theorem os_some (j : Nat) (g : List Int) : os ((j : Int) :: g) = j :: os g := by
  unfold os
  rw [List.filter_cons_of_pos (p := fun z : Int => decide (0 ≤ z)) (decide_eq_true (show (0 : Int) ≤ (j : Int) by omega)), List.map_cons, Int.toNat_natCast]
theorem cw_non (row : List Int) : cw row (-1) = 0 := rfl
theorem cw_some (row : List Int) (j : Nat) : cw row (j : Int) = row.getD j 0 := by
  unfold cw
  rw [if_pos (by omega), Int.toNat_natCast]
theorem wr_nn : ∀ {rs : List (List Int)} {g : List Int}, Fa2 okr rs g → 0 ≤ wr rs g
  | _, _, .nil => Int.le_refl _
  | _, _, .cons h t => by
    have := wr_nn t
    rcases h with rfl | ⟨j, rfl, _, h0⟩
    · show 0 ≤ cw _ (-1) + _
      rw [cw_non]
      omega
    · show 0 ≤ cw _ (j : Int) + _
      rw [cw_some]
      omega
def Sub (om : Nat) (g : List Int) : Prop := ∀ j ∈ os g, om.testBit j = true
/-- a table of the most by sets -/
structure TabG (rs : List (List Int)) (om : Nat) (kvs : List (Int × D)) : Prop where
  nd : (kvs.map (·.1)).Nodup
  sound : ∀ k d, lookI kvs k = some d → ∃ g, Gv rs g ∧ Sub om g ∧ k = (msk (os g) : Int) ∧ d = .int (wr rs g)
  best : ∀ g, Gv rs g → Sub om g → ∃ t, lookI kvs (msk (os g) : Int) = some (.int t) ∧ wr rs g ≤ t
theorem TabG.val {rs : List (List Int)} {om : Nat} {kvs : List (Int × D)} (T : TabG rs om kvs) {k : Int} {d : D} (h : lookI kvs k = some d) : ∃ t, d = .int t ∧ (∃ g, Gv rs g ∧ Sub om g ∧ k = (msk (os g) : Int) ∧ t = wr rs g) ∧ ∀ g, Gv rs g → Sub om g → k = (msk (os g) : Int) → wr rs g ≤ t := by
  obtain ⟨g, h1, h2, h3, h4⟩ := T.sound k d h
  refine ⟨_, h4, ⟨g, h1, h2, h3, rfl⟩, fun g' g1 g2 g3 => ?_⟩
  obtain ⟨t, e1, e2⟩ := T.best g' g1 g2
  rw [← g3, h, h4] at e1
  injection e1 with e1
  injection e1 with e1
  omega
theorem tabG_nil (om : Nat) : TabG [] om [(0, .int 0)] where
  nd := by simp
  sound := fun k d h => by
    rw [lookI_K, lookK_cons] at h
    by_cases e : (0 : Int) = k
    · rw [if_pos e] at h
      cases h
      exact ⟨[], ⟨.nil, List.nodup_nil⟩, fun j hj => (by cases hj), e.symm, rfl⟩
    · rw [if_neg e] at h
      cases h
  best := fun g h _ => by
    obtain ⟨h, _⟩ := h
    cases h
    exact ⟨0, rfl, Int.le_refl _⟩
theorem xor_or {m j : Nat} (h : m.testBit j = true) : (m ^^^ 2 ^ j) ||| 2 ^ j = m := Nat.eq_of_testBit_eq fun k => by
  rw [Nat.testBit_or, Nat.testBit_xor, Nat.testBit_two_pow]
  by_cases e : j = k
  · subst e
    simp [h]
  · simp [e]
theorem xor_bit {m j : Nat} (h : m.testBit j = true) : (m ^^^ 2 ^ j).testBit j = false := by
  rw [Nat.testBit_xor, Nat.testBit_two_pow, h]
  simp
/-- a set within another one, by its bits -/
theorem and_sub {a b : Nat} : a &&& b = a ↔ ∀ j, a.testBit j = true → b.testBit j = true := by
  constructor
  · intro h j hj
    rw [← h, Nat.testBit_and, Bool.and_eq_true] at hj
    exact hj.2
  · intro h
    refine Nat.eq_of_testBit_eq fun j => ?_
    rw [Nat.testBit_and]
    cases e : a.testBit j with
    | false => rfl
    | true => rw [h j e]; rfl
/-- what one more log can add to a set -/
structure Cand (row : List Int) (rs : List (List Int)) (om own : Nat) (b : Nat) (cs : List Int) : Prop where
  sound : ∀ c ∈ cs, ∃ g, Gv (row :: rs) g ∧ Sub om g ∧ msk (os g) = own ∧ c = wr (row :: rs) g
  best : ∀ z g, Gv (row :: rs) (z :: g) → Sub om (z :: g) → msk (os (z :: g)) = own → z < (b : Int) → ∃ c ∈ cs, wr (row :: rs) (z :: g) ≤ c
theorem Gv.tail {row : List Int} {rs : List (List Int)} {z : Int} {g : List Int} (h : Gv (row :: rs) (z :: g)) : okr row z ∧ Gv rs g := by
  obtain ⟨h1, h2⟩ := h
  cases h1 with
  | cons a b =>
    refine ⟨a, b, ?_⟩
    rcases a with rfl | ⟨j, rfl, _⟩
    · exact h2
    · rw [os_some] at h2
      exact (List.nodup_cons.mp h2).2
theorem cand_0 {row : List Int} {rs : List (List Int)} {om own : Nat} {kvs : List (Int × D)} (T : TabG rs om kvs) : Cand row rs om own 0 (match lookI kvs (own : Int) with
  | some (.int t) => [t]
  | _ => []) := by
  refine ⟨fun c hc => ?_, fun z g h1 h2 h3 h4 => ?_⟩
  · cases e : lookI kvs (own : Int) with
    | none => rw [e] at hc; cases hc
    | some d =>
      obtain ⟨t, rfl, ⟨g, g1, g2, g3, g4⟩, _⟩ := T.val e
      rw [e] at hc
      have hc : c ∈ [t] := hc
      rw [List.mem_singleton.mp hc]
      refine ⟨-1 :: g, ⟨.cons (.inl rfl) g1.ok, g1.nd⟩, g2, ?_, ?_⟩
      · show msk (os g) = own
        omega
      · show t = cw row (-1) + wr rs g
        rw [cw_non]
        omega
  · obtain ⟨a, gt⟩ := h1.tail
    rcases a with rfl | ⟨j, rfl, _⟩
    · obtain ⟨t, e1, e2⟩ := T.best g gt h2
      have h3 : msk (os g) = own := h3
      rw [h3] at e1
      rw [e1]
      refine ⟨t, List.mem_singleton.mpr rfl, ?_⟩
      show cw row (-1) + wr rs g ≤ t
      rw [cw_non]
      omega
    · omega
theorem cand_step {row : List Int} {rs : List (List Int)} {om own b : Nat} {kvs : List (Int × D)} {cs : List Int} (T : TabG rs om kvs) (C : Cand row rs om own b cs) (hom : ∀ j, own.testBit j = true → om.testBit j = true) (hb : b < row.length) :
    (∀ t, own.testBit b = true → 0 ≤ row.getD b 0 → lookI kvs ((own ^^^ 2 ^ b : Nat) : Int) = some (.int t) → Cand row rs om own (b + 1) (cs ++ [row.getD b 0 + t])) ∧
    ((own.testBit b = true → 0 ≤ row.getD b 0 → lookI kvs ((own ^^^ 2 ^ b : Nat) : Int) = none) → Cand row rs om own (b + 1) cs) := by
  have split : ∀ z g, Gv (row :: rs) (z :: g) → Sub om (z :: g) → msk (os (z :: g)) = own → z < ((b + 1 : Nat) : Int) → z < (b : Int) ∨ (z = (b : Int) ∧ own.testBit b = true ∧ 0 ≤ row.getD b 0 ∧ Gv rs g ∧ Sub om g ∧ own ^^^ 2 ^ b = msk (os g)) := fun z g h1 h2 h3 h4 => by
    by_cases e : z < (b : Int)
    · exact .inl e
    · have ez : z = (b : Int) := by omega
      subst ez
      obtain ⟨a, gt⟩ := h1.tail
      rw [os_some] at h3
      have nd := h1.nd
      rw [os_some] at nd
      have nb := (List.nodup_cons.mp nd).1
      refine .inr ⟨rfl, ?_, ?_, gt, fun j hj => h2 j (by rw [os_some]; exact List.mem_cons_of_mem _ hj), ?_⟩
      · rw [← h3, msk_bit]
        exact decide_eq_true List.mem_cons_self
      · rcases a with a | ⟨j, e, _, h0⟩
        · omega
        · have : b = j := by omega
          rw [this]
          exact h0
      · rw [← h3, msk_tail nb]
  constructor
  · intro t tb r0 hl
    refine ⟨fun c hc => ?_, fun z g h1 h2 h3 h4 => ?_⟩
    · rcases List.mem_append.mp hc with hc | hc
      · exact C.sound c hc
      · rw [List.mem_singleton.mp hc]
        obtain ⟨t', e, ⟨g, g1, g2, g3, g4⟩, _⟩ := T.val hl
        injection e with e
        have g3 : own ^^^ 2 ^ b = msk (os g) := by omega
        have nb : ¬ b ∈ os g := fun z => by
          have := xor_bit tb
          rw [g3, msk_bit, decide_eq_true z] at this
          cases this
        refine ⟨(b : Int) :: g, ⟨.cons (.inr ⟨b, rfl, hb, r0⟩) g1.ok, by rw [os_some]; exact List.nodup_cons.mpr ⟨nb, g1.nd⟩⟩, fun j hj => ?_, ?_, ?_⟩
        · rw [os_some] at hj
          rcases List.mem_cons.mp hj with rfl | hj
          · exact hom _ tb
          · exact g2 j hj
        · rw [os_some, msk, ← g3]
          exact xor_or tb
        · show _ = cw row (b : Int) + wr rs g
          rw [cw_some]
          omega
    · rcases split z g h1 h2 h3 h4 with w | ⟨rfl, _, _, w1, w2, w3⟩
      · obtain ⟨c, c1, c2⟩ := C.best z g h1 h2 h3 w
        exact ⟨c, List.mem_append_left _ c1, c2⟩
      · refine ⟨_, List.mem_append_right _ (List.mem_singleton.mpr rfl), ?_⟩
        obtain ⟨t', e1, e2⟩ := T.best g w1 w2
        rw [← w3, hl] at e1
        injection e1 with e1
        injection e1 with e1
        show cw row (b : Int) + wr rs g ≤ _
        rw [cw_some]
        omega
  · intro no
    refine ⟨C.sound, fun z g h1 h2 h3 h4 => ?_⟩
    rcases split z g h1 h2 h3 h4 with w | ⟨rfl, tb, r0, w1, w2, w3⟩
    · exact C.best z g h1 h2 h3 w
    · obtain ⟨t', e1, _⟩ := T.best g w1 w2
      rw [← w3, no tb r0] at e1
      cases e1
/-- the table of one more log, up to a set -/
structure TabN (rs : List (List Int)) (om N : Nat) (kvs : List (Int × D)) : Prop where
  nd : (kvs.map (·.1)).Nodup
  sound : ∀ k d, lookI kvs k = some d → ∃ g, Gv rs g ∧ Sub om g ∧ msk (os g) < N ∧ k = (msk (os g) : Int) ∧ d = .int (wr rs g)
  best : ∀ g, Gv rs g → Sub om g → msk (os g) < N → ∃ t, lookI kvs (msk (os g) : Int) = some (.int t) ∧ wr rs g ≤ t
theorem tabN_0 (rs : List (List Int)) (om : Nat) : TabN rs om 0 [] := ⟨List.nodup_nil, fun k d h => (by cases h), fun g _ _ h => (by omega)⟩
theorem TabN.len {rs : List (List Int)} {om N : Nat} {kvs : List (Int × D)} (T : TabN rs om N kvs) : kvs.length ≤ N := by
  have := keys_bound (l := (List.range N).map fun n : Nat => (n : Int)) T.nd fun k hk => by
    rw [mem_keys] at hk
    cases e : lookK kvs k with
    | none => rw [e] at hk; cases hk
    | some d =>
      obtain ⟨g, _, _, h1, rfl, _⟩ := T.sound k d e
      exact List.mem_map.mpr ⟨_, List.mem_range.mpr h1, rfl⟩
  rwa [List.length_map, List.length_range] at this
theorem TabN.skip {rs : List (List Int)} {om N : Nat} {kvs : List (Int × D)} (T : TabN rs om N kvs) (no : ∀ g, Gv rs g → Sub om g → msk (os g) ≠ N) : TabN rs om (N + 1) kvs :=
  ⟨T.nd, fun k d h => by obtain ⟨g, h1, h2, h3, h4⟩ := T.sound k d h; exact ⟨g, h1, h2, by omega, h4⟩, fun g h1 h2 h3 => T.best g h1 h2 (by have := no g h1 h2; omega)⟩
theorem TabN.put {row : List Int} {rs : List (List Int)} {om N : Nat} {kvs : List (Int × D)} {cs : List Int} {m : Int} (T : TabN (row :: rs) om N kvs) (C : Cand row rs om N row.length cs) (h1 : m ∈ cs) (h2 : ∀ c ∈ cs, c ≤ m) : TabN (row :: rs) om (N + 1) (putD kvs (N : Int) (.int m)) := by
  refine ⟨putD_nodup T.nd, fun k d h => ?_, fun g g1 g2 g3 => ?_⟩
  · rw [lookI_K, lookK_put] at h
    by_cases e : k = (N : Int)
    · rw [if_pos e] at h
      cases h
      obtain ⟨g, w1, w2, w3, w4⟩ := C.sound m h1
      exact ⟨g, w1, w2, by omega, by omega, by rw [w4]⟩
    · rw [if_neg e] at h
      obtain ⟨g, w1, w2, w3, w4⟩ := T.sound k d h
      exact ⟨g, w1, w2, by omega, w4⟩
  · rw [lookI_K, lookK_put]
    by_cases e : msk (os g) = N
    · rw [if_pos (by omega)]
      refine ⟨m, rfl, ?_⟩
      cases g with
      | nil => cases g1.ok
      | cons z g =>
        have : z < (row.length : Int) := by
          obtain ⟨a, _⟩ := g1.tail
          rcases a with rfl | ⟨j, rfl, h, _⟩ <;> omega
        obtain ⟨c, c1, c2⟩ := C.best z g g1 g2 e this
        have := h2 c c1
        omega
    · rw [if_neg (by omega)]
      exact T.best g g1 g2 (by omega)
theorem cand_nil {row : List Int} {rs : List (List Int)} {om N : Nat} (C : Cand row rs om N row.length []) : ∀ g, Gv (row :: rs) g → Sub om g → msk (os g) ≠ N := fun g g1 g2 e => by
  cases g with
  | nil => cases g1.ok
  | cons z g =>
    have : z < (row.length : Int) := by
      obtain ⟨a, _⟩ := g1.tail
      rcases a with rfl | ⟨j, rfl, h, _⟩ <;> omega
    obtain ⟨c, c1, _⟩ := C.best z g g1 g2 e this
    cases c1
theorem os_lt {rs : List (List Int)} {g : List Int} {m : Nat} (h : Fa2 okr rs g) (hr : ∀ r ∈ rs, r.length ≤ m) : ∀ j ∈ os g, j < m := by
  induction h with
  | nil => exact fun j hj => by cases hj
  | cons a t ih =>
    have ih := ih fun r hr' => hr r (List.mem_cons_of_mem _ hr')
    have := hr _ List.mem_cons_self
    rcases a with rfl | ⟨i, rfl, hi, _⟩
    · exact ih
    · rw [os_some]
      intro j hj
      rcases List.mem_cons.mp hj with rfl | hj
      · omega
      · exact ih j hj
theorem TabN.all {rs : List (List Int)} {om m : Nat} {kvs : List (Int × D)} (T : TabN rs om (2 ^ m) kvs) (hr : ∀ r ∈ rs, r.length ≤ m) : TabG rs om kvs :=
  ⟨T.nd, fun k d h => by obtain ⟨g, h1, h2, _, h4⟩ := T.sound k d h; exact ⟨g, h1, h2, h4⟩, fun g g1 g2 => T.best g g1 g2 (msk_lt (os_lt g1.ok hr))⟩
def S_sums_of : DSp := fun ds Q _ => match ds with
  | [d, .int o] => ∃ (ts : List (List Int)) (om : Nat), d = encT ts ∧ OkT ts ∧ o = (om : Int) ∧ ∀ kl : List (List (Int × D)), kl.length = ts.length + 1 → (∀ i, i ≤ ts.length → TabG (ts.drop i) om (kl.getD i [])) → Q (.lst (kl.map D.dI))
  | _ => False

def w_sums_of (EX : Str → Prop) : WS := sSeq (sSet 2 (wNo (wLst (wAs (wFzI (wDisp1 (wC (.int 0)) (wC (.int 0)))) (wA0)))))
  (sSeq (sFor (iSeq (wD (wOp slW (wSlot 0) (wD (wUn negW (wD (wC (.int 1)))))))) (bName 3) (sSeq (sPar [4, 5] (wNs (wNd (wOp ixS (wSlot 2) (wD (wUn negW (wD (wC (.int 1))))))) (wNs (wNoI (wNewI)) (wNs0))))
  (sSeq (sFor (iR1 (wOp shlW (wD (wC (.int 1))) (wD (wB len1 (wSs (wD (wOp ixS (wSlot 0) (wD (wC (.int 0))))) (wSs0)))))) (bName 6) (sIf (tBl (wOp eqW (wD (wOp andW (wSlot 6) (wSlot 1))) (wSlot 6))) (sSeq (sSet 7 (wNo (wIfL (tBl (wOp dinW (wSlot 6) (wSlot 4))) (wLst (wAs (wOp dgW (wSlot 4) (wSlot 6)) (wA0))) (wLst (wA0)))))
  (sSeq (sFor (iEnum (wD (wVar 3))) (bTup 2 (bCons (bName 8) (bCons (bName 9) (bNil)))) (sIf (tAnd (tBl (wOp eqW (wD (wOp andW (wD (wOp shrW (wSlot 6) (wSlot 8))) (wD (wC (.int 1))))) (wD (wC (.int 1))))) (tAnd (tBl (wOp geW (wSlot 9) (wD (wC (.int 0))))) (tBl (wOp dinW (wD (wOp xorW (wSlot 6) (wD (wOp shlW (wD (wC (.int 1))) (wSlot 8))))) (wSlot 4))))) (sAppend 7 (wOp addW (wSlot 9) (wD (wOp dgW (wSlot 4) (wD (wOp xorW (wSlot 6) (wD (wOp shlW (wD (wC (.int 1))) (wSlot 8))))))))) (sNext)))
  (sIf (tTru (wSlot 7)) (sPutI 5 (wVar 6) (wB max1 (wSs (wSlot 7) (wSs0)))) (sNext)))) (sNext)))
  (sAppend 2 (wVar 5)))))
  (sRet (wFz (wOpL slLW (wSlot 2) (wD (wUn negW (wD (wC (.int 1)))))))))
def N_sums_of : List Str := ["table", "orders", "found", "row", "last", "here", "own", "some", "order", "worth"]
def S_all_orders : DSp := fun ds Q _ => match ds with
  | [d] => ∃ ts, d = encT ts ∧ OkT ts ∧ Q (.int ((2 ^ wT ts - 1 : Nat) : Int))
  | _ => False
theorem row0 {ts : List (List Int)} (h : OkT ts) : atD (ts.map fun r => D.tup (r.map D.int)) 0 = some (.tup ((ts.getD 0 []).map D.int)) := row_at (i := 0) (by have := h.len; omega)

def w_all_orders (EX : Str → Prop) : WS := sRet (wOp subW (wD (wOp shlW (wD (wC (.int 1))) (wD (wB len1 (wSs (wD (wOp ixS (wSlot 0) (wD (wC (.int 0))))) (wSs0)))))) (wD (wC (.int 1))))
def N_all_orders : List Str := ["table"]
def IsMost (ts : List (List Int)) (om : Nat) (t : Int) : Prop := (∃ g, Gv ts g ∧ Sub om g ∧ wr ts g = t) ∧ ∀ g, Gv ts g → Sub om g → wr ts g ≤ t
theorem IsMost.uniq {ts : List (List Int)} {om : Nat} {s t : Int} (a : IsMost ts om s) (b : IsMost ts om t) : s = t := by
  obtain ⟨⟨g, g1, g2, g3⟩, g4⟩ := a
  obtain ⟨⟨h, h1, h2, h3⟩, h4⟩ := b
  have := g4 h h1 h2
  have := h4 g g1 g2
  omega
theorem gv_none : ∀ ts : List (List Int), Gv ts (ts.map fun _ => -1) ∧ os (ts.map fun _ => (-1 : Int)) = []
  | [] => ⟨⟨.nil, List.nodup_nil⟩, rfl⟩
  | r :: ts => by
    obtain ⟨h1, h2⟩ := gv_none ts
    refine ⟨⟨.cons (.inl rfl) h1.ok, ?_⟩, ?_⟩
    · show (os (-1 :: ts.map fun _ => -1)).Nodup
      rw [os_non]
      exact h1.nd
    · show os (-1 :: ts.map fun _ => -1) = []
      rw [os_non]
      exact h2
theorem TabG.len {rs : List (List Int)} {om m : Nat} {kvs : List (Int × D)} (T : TabG rs om kvs) (hr : ∀ r ∈ rs, r.length ≤ m) : kvs.length ≤ 2 ^ m := by
  have := keys_bound (l := (List.range (2 ^ m)).map fun n : Nat => (n : Int)) T.nd fun k hk => by
    rw [mem_keys] at hk
    cases e : lookK kvs k with
    | none => rw [e] at hk; cases hk
    | some d =>
      obtain ⟨g, g1, _, rfl, _⟩ := T.sound k d e
      exact List.mem_map.mpr ⟨_, List.mem_range.mpr (msk_lt (os_lt g1.ok hr)), rfl⟩
  rwa [List.length_map, List.length_range] at this
theorem OkT.le {ts : List (List Int)} (h : OkT ts) : ∀ r ∈ ts, r.length ≤ wT ts := fun r hr => Nat.le_of_eq (h.row r hr).1
/-- what is at a key -/
def vat (kvs : List (Int × D)) (k : Int) : Int := match lookI kvs k with
  | some (.int t) => t
  | _ => 0
theorem TabG.vat {rs : List (List Int)} {om : Nat} {kvs : List (Int × D)} (T : TabG rs om kvs) {k : Int} (h : k ∈ kvs.map (·.1)) : lookI kvs k = some (.int (vat kvs k)) := by
  rw [mem_keys] at h
  cases e : lookK kvs k with
  | none => rw [e] at h; cases h
  | some d =>
    obtain ⟨t, rfl, _⟩ := T.val e
    unfold DL.vat
    rw [show lookI kvs k = some (.int t) from e]
theorem TabG.most {rs : List (List Int)} {om : Nat} {kvs : List (Int × D)} (T : TabG rs om kvs) {m : Int} (h1 : m ∈ (kvs.map (·.1)).map (DL.vat kvs)) (h2 : ∀ y ∈ (kvs.map (·.1)).map (DL.vat kvs), y ≤ m) : IsMost rs om m := by
  obtain ⟨k, hk, rfl⟩ := List.mem_map.mp h1
  obtain ⟨t, e, ⟨g, g1, g2, _, g4⟩, _⟩ := T.val (T.vat hk)
  injection e with e
  refine ⟨⟨g, g1, g2, by rw [← g4, e]⟩, fun g' h3 h4 => ?_⟩
  obtain ⟨t', e1, e2⟩ := T.best g' h3 h4
  have hk' := lookK_some (show lookK kvs _ = some _ from e1)
  have e3 := T.vat hk'
  rw [e1] at e3
  injection e3 with e3
  injection e3 with e3
  have := h2 _ (List.mem_map.mpr ⟨_, hk', rfl⟩)
  omega
theorem TabG.ne {rs : List (List Int)} {om : Nat} {kvs : List (Int × D)} (T : TabG rs om kvs) : kvs ≠ [] := fun e => by
  obtain ⟨h1, h2⟩ := gv_none rs
  obtain ⟨t, e1, _⟩ := T.best _ h1 (fun j hj => by rw [h2] at hj; cases hj)
  rw [e] at e1
  cases e1
def S_most_of : DSp := fun ds Q _ => match ds with
  | [d, .int o] => ∃ (ts : List (List Int)) (om : Nat), d = encT ts ∧ OkT ts ∧ o = (om : Int) ∧ ∀ t, IsMost ts om t → Q (.int t)
  | _ => False

def w_most_of (EX : Str → Prop) : WS := sSeq (sSet 2 (wNd (wOp ixS (wD (wCall S_sums_of EX (wAs (wVar 0) (wAs (wVar 1) (wA0))))) (wD (wC (.int 0))))))
  (sRet (wB max1 (wSs (wD (wFz (wLc (iDk (wVar 2)) (bName 3) (ts0) (wOp dgW (wSlot 2) (wSlot 3)) [3]))) (wSs0))))
def N_most_of : List Str := ["table", "orders", "some", "own"]
/-! matchings, and what each order adds -/
def sumN (n : Nat) (f : Nat → Int) : Int := ((List.range n).map f).sum
theorem sumN_0 (f : Nat → Int) : sumN 0 f = 0 := rfl
theorem sumN_succ (n : Nat) (f : Nat → Int) : sumN (n + 1) f = sumN n f + f n := by
  unfold sumN
  rw [List.range_succ, List.map_append, List.sum_append]
  simp
theorem sumN_front (n : Nat) (f : Nat → Int) : sumN (n + 1) f = f 0 + sumN n fun i => f (i + 1) := by
  unfold sumN
  rw [List.range_succ_eq_map, List.map_cons, List.sum_cons, List.map_map]
  rfl
theorem sumN_congr {f g : Nat → Int} : ∀ {n : Nat}, (∀ i, i < n → f i = g i) → sumN n f = sumN n g
  | 0, _ => rfl
  | n + 1, h => by
    rw [sumN_succ, sumN_succ, sumN_congr (n := n) fun i hi => h i (by omega), h n (by omega)]
theorem sumN_add (f g : Nat → Int) : ∀ n : Nat, sumN n (fun i => f i + g i) = sumN n f + sumN n g
  | 0 => rfl
  | n + 1 => by
    rw [sumN_succ, sumN_succ, sumN_succ, sumN_add f g n]
    omega
theorem sumN_upd {f g : Nat → Int} {k : Nat} {d : Int} : ∀ {n : Nat}, k < n → (∀ i, i < n → i ≠ k → f i = g i) → f k = g k + d → sumN n f = sumN n g + d
  | 0, h, _, _ => by omega
  | n + 1, h, e, ed => by
    rw [sumN_succ, sumN_succ]
    by_cases z : k = n
    · subst z
      rw [sumN_congr (g := g) fun i hi => e i (by omega) (by omega)]
      omega
    · rw [sumN_upd (n := n) (by omega) (fun i hi ne => e i (by omega) ne) ed, e n (by omega) (fun q => z q.symm)]
      omega
theorem sumN_list : ∀ xs : List Int, xs.sum = sumN xs.length fun i => xs.getD i 0
  | [] => rfl
  | x :: xs => by
    rw [List.sum_cons, List.length_cons, sumN_front, sumN_list xs]
    rfl
def vw (val : Nat → Nat → Int) (i : Nat) : Option Nat → Int
  | none => 0
  | some j => val i j
structure Mx (n w : Nat) (val : Nat → Nat → Int) (M : Nat → Option Nat) : Prop where
  ok : ∀ i j, i < n → M i = some j → j < w ∧ 0 ≤ val i j
  inj : ∀ i i' j, i < n → i' < n → M i = some j → M i' = some j → i = i'
def Av (n : Nat) (M : Nat → Option Nat) (j : Nat) : Prop := ∀ i, i < n → M i ≠ some j
def wt (n : Nat) (val : Nat → Nat → Int) (M : Nat → Option Nat) : Int := sumN n fun i => vw val i (M i)
/-- what is reached from a row by turns over N and M -/
inductive Rc (n : Nat) (M N : Nat → Option Nat) (i : Nat) : Nat → Prop
  | base : Rc n M N i i
  | step {r r' o : Nat} : Rc n M N i r → r < n → r' < n → N r = some o → M r' = some o → Rc n M N i r'
theorem Rc.inv {n : Nat} {M N : Nat → Option Nat} {i r' : Nat} (h : Rc n M N i r') : r' = i ∨ ∃ r o, Rc n M N i r ∧ r < n ∧ r' < n ∧ N r = some o ∧ M r' = some o := by
  cases h with
  | base => exact .inl rfl
  | step a b c d e => exact .inr ⟨_, _, a, b, c, d, e⟩
section
variable {n w : Nat} {val : Nat → Nat → Int}
open Classical in
theorem exch {M N : Nat → Option Nat} {i j : Nat} (hM : Mx n w val M) (hN : Mx n w val N) (hi : i < n) (mi : M i = none) (hj : j < w) (hv : 0 ≤ val i j) (av : Av n N j) :
    ∃ A B, Mx n w val A ∧ Mx n w val B ∧ wt n val A + wt n val B = wt n val M + wt n val N + val i j ∧ ∀ o, o ≠ j → Av n M o → Av n A o ∨ Av n B o := by
  let A : Nat → Option Nat := fun r => if r = i then some j else if Rc n M N i r then M r else N r
  let B : Nat → Option Nat := fun r => if Rc n M N i r then N r else M r
  have a1 : A i = some j := if_pos rfl
  have a2 : ∀ {r}, r ≠ i → Rc n M N i r → A r = M r := fun {r} h k => by
    show (if r = i then some j else if Rc n M N i r then M r else N r) = _
    rw [if_neg h, if_pos k]
  have a3 : ∀ {r}, r ≠ i → ¬ Rc n M N i r → A r = N r := fun {r} h k => by
    show (if r = i then some j else if Rc n M N i r then M r else N r) = _
    rw [if_neg h, if_neg k]
  have b1 : ∀ {r}, Rc n M N i r → B r = N r := fun k => if_pos k
  have b2 : ∀ {r}, ¬ Rc n M N i r → B r = M r := fun k => if_neg k
  have ri : Rc n M N i i := .base
  -- over what a reached row came
  have pred : ∀ {r o}, r ≠ i → Rc n M N i r → M r = some o → ∃ q, Rc n M N i q ∧ q < n ∧ N q = some o := fun {r o} h k e => by
    rcases k.inv with z | ⟨q, o', h1, h2, _, h3, h4⟩
    · exact (h z).elim
    · rw [e] at h4
      cases h4
      exact ⟨q, h1, h2, h3⟩
  have noj : ∀ {r}, r < n → r ≠ i → A r ≠ some j := fun {r} hr h e => by
    by_cases k : Rc n M N i r
    · rw [a2 h k] at e
      obtain ⟨q, _, h2, h3⟩ := pred h k e
      exact av q h2 h3
    · rw [a3 h k] at e
      exact av r hr e
  have crossA : ∀ {r r' o}, r < n → r' < n → r ≠ i → Rc n M N i r → ¬ Rc n M N i r' → M r = some o → N r' = some o → False := fun {r r' o} hr hr' h k k' e e' => by
    obtain ⟨q, h1, h2, h3⟩ := pred h k e
    rw [hN.inj q r' o h2 hr' h3 e'] at h1
    exact k' h1
  have crossB : ∀ {r r' o}, r < n → r' < n → Rc n M N i r → ¬ Rc n M N i r' → N r = some o → M r' = some o → False := fun {r r' o} hr hr' k k' e e' => k' (.step k hr hr' e e')
  refine ⟨A, B, ⟨fun r o hr e => ?_, fun r r' o hr hr' e e' => ?_⟩, ⟨fun r o hr e => ?_, fun r r' o hr hr' e e' => ?_⟩, ?_, fun o oj hA => ?_⟩
  · by_cases h : r = i
    · subst h
      rw [a1] at e
      cases e
      exact ⟨hj, hv⟩
    · by_cases k : Rc n M N i r
      · rw [a2 h k] at e
        exact hM.ok r o hr e
      · rw [a3 h k] at e
        exact hN.ok r o hr e
  · by_cases h : r = i
    · by_cases h' : r' = i
      · rw [h, h']
      · subst h
        rw [a1] at e
        cases e
        exact (noj hr' h' e').elim
    · by_cases h' : r' = i
      · subst h'
        rw [a1] at e'
        cases e'
        exact (noj hr h e).elim
      · by_cases k : Rc n M N i r
        · by_cases k' : Rc n M N i r'
          · rw [a2 h k] at e
            rw [a2 h' k'] at e'
            exact hM.inj r r' o hr hr' e e'
          · rw [a2 h k] at e
            rw [a3 h' k'] at e'
            exact (crossA hr hr' h k k' e e').elim
        · by_cases k' : Rc n M N i r'
          · rw [a3 h k] at e
            rw [a2 h' k'] at e'
            exact (crossA hr' hr h' k' k e' e).elim
          · rw [a3 h k] at e
            rw [a3 h' k'] at e'
            exact hN.inj r r' o hr hr' e e'
  · by_cases k : Rc n M N i r
    · rw [b1 k] at e
      exact hN.ok r o hr e
    · rw [b2 k] at e
      exact hM.ok r o hr e
  · by_cases k : Rc n M N i r
    · by_cases k' : Rc n M N i r'
      · rw [b1 k] at e
        rw [b1 k'] at e'
        exact hN.inj r r' o hr hr' e e'
      · rw [b1 k] at e
        rw [b2 k'] at e'
        exact (crossB hr hr' k k' e e').elim
    · by_cases k' : Rc n M N i r'
      · rw [b2 k] at e
        rw [b1 k'] at e'
        exact (crossB hr' hr k' k e' e).elim
      · rw [b2 k] at e
        rw [b2 k'] at e'
        exact hM.inj r r' o hr hr' e e'
  · unfold wt
    rw [← sumN_add, ← sumN_add]
    refine sumN_upd (k := i) hi (fun r hr h => ?_) ?_
    · by_cases k : Rc n M N i r
      · rw [a2 h k, b1 k]
      · rw [a3 h k, b2 k]
        exact Int.add_comm _ _
    · rw [a1, b1 ri, mi]
      show val i j + _ = 0 + _ + val i j
      omega
  · by_cases q : Av n B o
    · exact .inr q
    · refine .inl fun r' hr' e' => q fun r hr e => ?_
      by_cases k : Rc n M N i r
      · rw [b1 k] at e
        by_cases h' : r' = i
        · subst h'
          rw [a1] at e'
          cases e'
          exact oj rfl
        · by_cases k' : Rc n M N i r'
          · rw [a2 h' k'] at e'
            exact hA r' hr' e'
          · rw [a3 h' k'] at e'
            rw [hN.inj r r' o hr hr' e e'] at k
            exact k' k
      · rw [b2 k] at e
        exact hA r hr e
/-- one row left out -/
theorem drop_row {M : Nat → Option Nat} {i : Nat} (hM : Mx n w val M) (hi : i < n) : ∃ M' : Nat → Option Nat, Mx n w val M' ∧ M' i = none ∧ wt n val M = wt n val M' + vw val i (M i) ∧ (∀ o, Av n M o → Av n M' o) ∧ ∀ o, M i = some o → Av n M' o := by
  have e1 : ∀ {r o}, (if r = i then none else M r) = some o → r ≠ i ∧ M r = some o := fun {r o} h => by
    by_cases z : r = i
    · rw [if_pos z] at h
      cases h
    · rw [if_neg z] at h
      exact ⟨z, h⟩
  refine ⟨fun r => if r = i then none else M r, ⟨fun r o hr e => hM.ok r o hr (e1 e).2, fun r r' o hr hr' e e' => hM.inj r r' o hr hr' (e1 e).2 (e1 e').2⟩, if_pos rfl, ?_, fun o h r hr e => h r hr (e1 e).2, fun o h r hr e => (e1 e).1 (hM.inj r i o hr hi (e1 e).2 h)⟩
  unfold wt
  refine sumN_upd (k := i) hi (fun r hr h => by simp only [if_neg h]) ?_
  show _ = vw val i (if i = i then none else M i) + _
  rw [if_pos rfl]
  show _ = 0 + _
  rw [Int.zero_add]
structure Bst (n w : Nat) (val : Nat → Nat → Int) (b : Int) : Prop where
  ex : ∃ M, Mx n w val M ∧ wt n val M = b
  le : ∀ M, Mx n w val M → wt n val M ≤ b
structure BstA (n w : Nat) (val : Nat → Nat → Int) (j : Nat) (b : Int) : Prop where
  ex : ∃ M, Mx n w val M ∧ Av n M j ∧ wt n val M = b
  le : ∀ M, Mx n w val M → Av n M j → wt n val M ≤ b
/-- what rows use, order by order -/
theorem used_sum {M : Nat → Option Nat} {u : Nat → Int} (hM : Mx n w val M) (h0 : ∀ j, j < w → Av n M j → u j = 0) : sumN n (fun i => vw (fun _ j => u j) i (M i)) = sumN w u := by
  have key : ∀ k, k ≤ n → sumN k (fun i => vw (fun _ j => u j) i (M i)) = sumN w fun j => if (List.range k).any (fun i => decide (M i = some j)) = true then u j else 0 := by
    intro k
    induction k with
    | zero =>
      intro _
      rw [sumN_0]
      have : ∀ w : Nat, sumN w (fun j => if (List.range 0).any (fun i => decide (M i = some j)) = true then u j else 0) = 0 := fun w => by
        induction w with
        | zero => rfl
        | succ w ih => rw [sumN_succ, ih]; rfl
      rw [this]
    | succ k ih =>
      intro hk
      rw [sumN_succ, ih (by omega)]
      have any_s : ∀ j, ((List.range (k + 1)).any fun i => decide (M i = some j)) = (((List.range k).any fun i => decide (M i = some j)) || decide (M k = some j)) := fun j => by
        rw [List.range_succ, List.any_append]
        simp
      cases e : M k with
      | none =>
        show _ + 0 = _
        rw [Int.add_zero]
        refine sumN_congr fun j _ => ?_
        rw [any_s, e]
        simp
      | some o =>
        show _ + u o = _
        have ow := (hM.ok k o (by omega) e).1
        have no : ((List.range k).any fun i => decide (M i = some o)) = false := by
          rw [Bool.eq_false_iff]
          intro z
          obtain ⟨i, h1, h2⟩ := List.any_eq_true.mp z
          have h1 := List.mem_range.mp h1
          have := hM.inj i k o (by omega) (by omega) (of_decide_eq_true h2) e
          omega
        refine (sumN_upd (k := o) ow (fun j _ ne => ?_) ?_).symm
        · rw [any_s, e]
          have : ¬ (some o = some j) := fun z => ne (Option.some.inj z).symm
          rw [decide_eq_false this, Bool.or_false]
        · rw [any_s, e, no]
          simp
  rw [key n (Nat.le_refl _)]
  refine sumN_congr fun j hj => ?_
  by_cases q : ((List.range n).any fun i => decide (M i = some j)) = true
  · rw [if_pos q]
  · rw [if_neg q, h0 j hj fun i hi e => q (List.any_eq_true.mpr ⟨i, List.mem_range.mpr hi, decide_eq_true e⟩)]
theorem duals {b : Int} {u l : Nat → Int} (hb : Bst n w val b) (hc : ∀ j, j < w → BstA n w val j (b - u j)) (hl : ∀ i, i < n → 0 ≤ l i ∧ (∀ j, j < w → 0 ≤ val i j → val i j - u j ≤ l i) ∧ (l i = 0 ∨ ∃ j, j < w ∧ 0 ≤ val i j ∧ l i = val i j - u j)) :
    (∀ j, j < w → 0 ≤ u j ∧ (u j = 0 ∨ ∃ i, i < n ∧ u j ≤ val i j)) ∧ sumN n l + sumN w u = b := by
  obtain ⟨M, hM, eM⟩ := hb.ex
  have u0 : ∀ j, j < w → 0 ≤ u j := fun j hj => by
    obtain ⟨N, h1, _, h3⟩ := (hc j hj).ex
    have := hb.le N h1
    omega
  have uA : ∀ j, j < w → Av n M j → u j = 0 := fun j hj h => by
    have := (hc j hj).le M hM h
    have := u0 j hj
    omega
  have uM : ∀ i j, i < n → M i = some j → u j ≤ val i j := fun i j hi e => by
    obtain ⟨M', h1, _, h3, _, h5⟩ := drop_row hM hi
    have := (hc j (hM.ok i j hi e).1).le M' h1 (h5 j e)
    rw [e] at h3
    have h3 : wt n val M = wt n val M' + val i j := h3
    omega
  have uE : ∀ i j, i < n → j < w → 0 ≤ val i j → M i = none → val i j ≤ u j := fun i j hi hj hv e => by
    obtain ⟨N, h1, h2, h3⟩ := (hc j hj).ex
    obtain ⟨A, B, a1, a2, a3, _⟩ := exch hM h1 hi e hj hv h2
    have := hb.le A a1
    have := hb.le B a2
    omega
  have uD : ∀ i j j0, i < n → j < w → 0 ≤ val i j → M i = some j0 → val i j - u j ≤ val i j0 - u j0 := fun i j j0 hi hj hv e => by
    by_cases q : j0 = j
    · subst q
      omega
    · obtain ⟨N, h1, h2, h3⟩ := (hc j hj).ex
      obtain ⟨M', m1, m2, m3, _, m5⟩ := drop_row hM hi
      obtain ⟨A, B, a1, a2, a3, a4⟩ := exch m1 h1 hi m2 hj hv h2
      rw [e] at m3
      have m3 : wt n val M = wt n val M' + val i j0 := m3
      have hc0 := hc j0 (hM.ok i j0 hi e).1
      rcases a4 j0 q (m5 j0 e) with z | z
      · have := hc0.le A a1 z
        have := hb.le B a2
        omega
      · have := hc0.le B a2 z
        have := hb.le A a1
        omega
  refine ⟨fun j hj => ⟨u0 j hj, ?_⟩, ?_⟩
  · by_cases q : Av n M j
    · exact .inl (uA j hj q)
    · refine .inr (Classical.byContradiction fun no => q fun i hi e => no ⟨i, hi, uM i j hi e⟩)
  · have e1 : sumN n (fun i => l i + vw (fun _ j => u j) i (M i)) = wt n val M := sumN_congr fun i hi => by
      obtain ⟨l1, l2, l3⟩ := hl i hi
      cases e : M i with
      | none =>
        show l i + 0 = 0
        rcases l3 with z | ⟨j, j1, j2, j3⟩
        · omega
        · have := uE i j hi j1 j2 e
          omega
      | some j0 =>
        show l i + u j0 = val i j0
        obtain ⟨k1, k2⟩ := hM.ok i j0 hi e
        have := l2 j0 k1 k2
        have := uM i j0 hi e
        rcases l3 with z | ⟨j, j1, j2, j3⟩
        · omega
        · have := uD i j j0 hi j1 j2 e
          omega
    rw [sumN_add, used_sum hM uA] at e1
    omega
end
theorem wr_app : ∀ {rs : List (List Int)} {p : List Int} (rs' : List (List Int)) (g : List Int), rs.length = p.length → wr (rs ++ rs') (p ++ g) = wr rs p + wr rs' g
  | [], [], _, _, _ => by
    show wr _ _ = 0 + _
    rw [Int.zero_add]
    rfl
  | r :: rs, z :: p, rs', g, h => by
    have := wr_app (rs := rs) (p := p) rs' g (by simpa using h)
    show cw r z + wr (rs ++ rs') (p ++ g) = cw r z + wr rs p + wr rs' g
    omega
/-! lists as functions -/
def fnG (g : List Int) (i : Nat) : Option Nat := if 0 ≤ g.getD i (-1) then some (g.getD i (-1)).toNat else none
def gFn (n : Nat) (M : Nat → Option Nat) : List Int := (List.range n).map fun i => match M i with
  | some j => (j : Int)
  | none => -1
theorem gFn_len (n : Nat) (M : Nat → Option Nat) : (gFn n M).length = n := by simp [gFn]
theorem gFn_at {n : Nat} {M : Nat → Option Nat} {i : Nat} (h : i < n) : (gFn n M).getD i (-1) = match M i with
  | some j => (j : Int)
  | none => -1 := by
  refine getD_at ?_
  unfold gFn
  rw [List.getElem?_map, List.getElem?_range h]
  rfl
theorem fnG_gFn {n : Nat} {M : Nat → Option Nat} {i : Nat} (h : i < n) : fnG (gFn n M) i = M i := by
  unfold fnG
  rw [gFn_at h]
  cases M i with
  | none => rfl
  | some j =>
    show (if 0 ≤ (j : Int) then some (j : Int).toNat else none) = some j
    rw [if_pos (by omega), Int.toNat_natCast]
theorem fa2_idx {α β : Type} {R : α → β → Prop} (a0 : α) (b0 : β) : ∀ {as : List α} {bs : List β}, Fa2 R as bs ↔ as.length = bs.length ∧ ∀ i, i < as.length → R (as.getD i a0) (bs.getD i b0)
  | [], [] => ⟨fun _ => ⟨rfl, fun i h => by cases h⟩, fun _ => .nil⟩
  | [], _ :: _ => ⟨fun h => (by cases h), fun h => by cases h.1⟩
  | _ :: _, [] => ⟨fun h => (by cases h), fun h => by cases h.1⟩
  | a :: as, b :: bs => by
    constructor
    · intro h
      cases h with
      | cons x t =>
        obtain ⟨h1, h2⟩ := (fa2_idx a0 b0).mp t
        refine ⟨by rw [List.length_cons, List.length_cons, h1], fun i hi => ?_⟩
        cases i with
        | zero => exact x
        | succ i => exact h2 i (by simpa using hi)
    · rintro ⟨h1, h2⟩
      exact .cons (h2 0 (by simp)) ((fa2_idx a0 b0).mpr ⟨by simpa using h1, fun i hi => h2 (i + 1) (by simpa using hi)⟩)
theorem os_mem {j : Nat} : ∀ {g : List Int}, j ∈ os g ↔ ∃ i, i < g.length ∧ fnG g i = some j
  | [] => ⟨fun h => (by cases h), fun ⟨i, h, _⟩ => by cases h⟩
  | z :: g => by
    have f0 : fnG (z :: g) 0 = if 0 ≤ z then some z.toNat else none := rfl
    have fs : ∀ i, fnG (z :: g) (i + 1) = fnG g i := fun i => rfl
    have e : j ∈ os (z :: g) ↔ (0 ≤ z ∧ z.toNat = j) ∨ j ∈ os g := by
      unfold os
      by_cases q : 0 ≤ z
      · rw [List.filter_cons_of_pos (p := fun z : Int => decide (0 ≤ z)) (decide_eq_true q), List.map_cons, List.mem_cons]
        exact or_congr ⟨fun w => ⟨q, w.symm⟩, fun w => w.2.symm⟩ Iff.rfl
      · rw [List.filter_cons_of_neg (p := fun z : Int => decide (0 ≤ z)) (by simpa using q)]
        exact ⟨.inr, fun w => w.resolve_left fun x => q x.1⟩
    rw [e, os_mem (g := g)]
    constructor
    · rintro (⟨h1, h2⟩ | ⟨i, h1, h2⟩)
      · exact ⟨0, by simp, by rw [f0, if_pos h1, h2]⟩
      · exact ⟨i + 1, by simpa using h1, h2⟩
    · rintro ⟨i, h1, h2⟩
      cases i with
      | zero =>
        rw [f0] at h2
        by_cases q : 0 ≤ z
        · rw [if_pos q] at h2
          exact .inl ⟨q, Option.some.inj h2⟩
        · rw [if_neg q] at h2
          cases h2
      | succ i => exact .inr ⟨i, by simpa using h1, h2⟩
theorem os_inj : ∀ {g : List Int}, (os g).Nodup ↔ ∀ i i' j, i < g.length → i' < g.length → fnG g i = some j → fnG g i' = some j → i = i'
  | [] => ⟨fun _ i _ _ h => (by cases h), fun _ => List.nodup_nil⟩
  | z :: g => by
    have f0 : fnG (z :: g) 0 = if 0 ≤ z then some z.toNat else none := rfl
    by_cases q : 0 ≤ z
    · have e : os (z :: g) = z.toNat :: os g := by
        unfold os
        rw [List.filter_cons_of_pos (p := fun z : Int => decide (0 ≤ z)) (decide_eq_true q), List.map_cons]
      rw [e, List.nodup_cons, os_inj (g := g), os_mem]
      rw [if_pos q] at f0
      constructor
      · rintro ⟨h1, h2⟩ i i' j hi hi' e e'
        cases i with
        | zero =>
          cases i' with
          | zero => rfl
          | succ i' =>
            rw [f0] at e
            exact (h1 ⟨i', by simpa using hi', by rw [e]; exact e'⟩).elim
        | succ i =>
          cases i' with
          | zero =>
            rw [f0] at e'
            exact (h1 ⟨i, by simpa using hi, by rw [e']; exact e⟩).elim
          | succ i' => rw [h2 i i' j (by simpa using hi) (by simpa using hi') e e']
      · intro h
        refine ⟨fun ⟨i, h1, h2⟩ => ?_, fun i i' j hi hi' e e' => ?_⟩
        · have := h 0 (i + 1) _ (by simp) (by simpa using h1) f0 h2
          omega
        · have := h (i + 1) (i' + 1) j (by simpa using hi) (by simpa using hi') e e'
          omega
    · have e : os (z :: g) = os g := by
        unfold os
        rw [List.filter_cons_of_neg (p := fun z : Int => decide (0 ≤ z)) (by simpa using q)]
      rw [e, os_inj (g := g)]
      rw [if_neg q] at f0
      constructor
      · intro h i i' j hi hi' e e'
        cases i with
        | zero =>
          rw [f0] at e
          cases e
        | succ i =>
          cases i' with
          | zero =>
            rw [f0] at e'
            cases e'
          | succ i' => rw [h i i' j (by simpa using hi) (by simpa using hi') e e']
      · intro h i i' j hi hi' e e'
        have := h (i + 1) (i' + 1) j (by simpa using hi) (by simpa using hi') e e'
        omega
theorem okr_fn {r : List Int} {g : List Int} {i : Nat} : okr r (g.getD i (-1)) ↔ (g.getD i (-1) = -1 ∨ 0 ≤ g.getD i (-1)) ∧ ∀ j, fnG g i = some j → j < r.length ∧ 0 ≤ r.getD j 0 := by
  unfold fnG okr
  generalize g.getD i (-1) = z
  constructor
  · rintro (rfl | ⟨j, rfl, h1, h2⟩)
    · exact ⟨.inl rfl, fun j h => by rw [if_neg (by decide)] at h; cases h⟩
    · refine ⟨.inr (by omega), fun j' h => ?_⟩
      rw [if_pos (by omega), Int.toNat_natCast] at h
      cases h
      exact ⟨h1, h2⟩
  · rintro ⟨h0, h⟩
    by_cases q : 0 ≤ z
    · obtain ⟨h1, h2⟩ := h z.toNat (if_pos q)
      exact .inr ⟨z.toNat, by omega, h1, h2⟩
    · exact .inl (h0.resolve_right q)
theorem cw_fn {ts : List (List Int)} {g : List Int} {i : Nat} : cw (ts.getD i []) (g.getD i (-1)) = vw (tv ts) i (fnG g i) := by
  unfold cw fnG
  by_cases q : 0 ≤ g.getD i (-1)
  · rw [if_pos q, if_pos q]
    rfl
  · rw [if_neg q, if_neg q]
    rfl
theorem wr_sumN : ∀ {ts : List (List Int)} {g : List Int}, ts.length = g.length → wr ts g = sumN ts.length fun i => cw (ts.getD i []) (g.getD i (-1))
  | [], [], _ => rfl
  | r :: ts, z :: g, h => by
    rw [List.length_cons, sumN_front]
    show cw r z + wr ts g = cw r z + _
    rw [wr_sumN (ts := ts) (g := g) (by simpa using h)]
    rfl
theorem gv_mx {ts : List (List Int)} (hm : OkT ts) {g : List Int} (h : Gv ts g) : Mx ts.length (wT ts) (tv ts) (fnG g) ∧ wt ts.length (tv ts) (fnG g) = wr ts g := by
  obtain ⟨h1, h2⟩ := (fa2_idx ([] : List Int) (-1 : Int)).mp h.ok
  refine ⟨⟨fun i j hi e => ?_, fun i i' j hi hi' e e' => os_inj.mp h.nd i i' j (by omega) (by omega) e e'⟩, ?_⟩
  · have := (okr_fn.mp (h2 i hi)).2 j e
    rw [hm.rowlen hi] at this
    exact this
  · rw [wr_sumN h1]
    exact sumN_congr fun i _ => cw_fn.symm
theorem mx_gv {ts : List (List Int)} (hm : OkT ts) {M : Nat → Option Nat} (h : Mx ts.length (wT ts) (tv ts) M) : Gv ts (gFn ts.length M) ∧ wr ts (gFn ts.length M) = wt ts.length (tv ts) M := by
  have gl := gFn_len ts.length M
  refine ⟨⟨(fa2_idx ([] : List Int) (-1 : Int)).mpr ⟨gl.symm, fun i hi => okr_fn.mpr ⟨?_, fun j e => ?_⟩⟩, os_inj.mpr fun i i' j hi hi' e e' => ?_⟩, ?_⟩
  · rw [gFn_at hi]
    cases M i with
    | none => exact .inl rfl
    | some j => exact .inr (by show (0 : Int) ≤ (j : Int); omega)
  · rw [fnG_gFn hi] at e
    rw [hm.rowlen hi]
    exact h.ok i j hi e
  · rw [gl] at hi hi'
    rw [fnG_gFn hi] at e
    rw [fnG_gFn hi'] at e'
    exact h.inj i i' j hi hi' e e'
  · rw [wr_sumN gl.symm]
    refine sumN_congr fun i hi => ?_
    rw [cw_fn, fnG_gFn hi]
theorem all_bit {w k : Nat} : (2 ^ w - 1).testBit k = decide (k < w) := Nat.testBit_two_pow_sub_one ..
theorem sub_all {ts : List (List Int)} (hm : OkT ts) {g : List Int} (h : Gv ts g) : Sub (2 ^ wT ts - 1) g := fun j hj => by
  rw [all_bit]
  exact decide_eq_true (os_lt h.ok (fun r hr => Nat.le_of_eq (hm.row r hr).1) j hj)
theorem sub_but {ts : List (List Int)} (hm : OkT ts) {g : List Int} (h : Gv ts g) {j : Nat} (hj : j < wT ts) : Sub ((2 ^ wT ts - 1) ^^^ 2 ^ j) g ↔ Av ts.length (fnG g) j := by
  obtain ⟨h1, _⟩ := (fa2_idx ([] : List Int) (-1 : Int)).mp h.ok
  constructor
  · intro s i hi e
    have := s j (os_mem.mpr ⟨i, by omega, e⟩)
    rw [Nat.testBit_xor, all_bit, Nat.testBit_two_pow, decide_eq_true hj] at this
    simp at this
  · intro a k hk
    have lt := os_lt h.ok (fun r hr => Nat.le_of_eq (hm.row r hr).1) k hk
    obtain ⟨i, hi, e⟩ := os_mem.mp hk
    have ne : j ≠ k := fun z => a i (by omega) (by rw [z]; exact e)
    rw [Nat.testBit_xor, all_bit, Nat.testBit_two_pow, decide_eq_true lt, decide_eq_false ne]
    rfl
theorem most_bst {ts : List (List Int)} (hm : OkT ts) {b : Int} (h : IsMost ts (2 ^ wT ts - 1) b) : Bst ts.length (wT ts) (tv ts) b := by
  obtain ⟨⟨g, g1, _, g3⟩, g4⟩ := h
  obtain ⟨m1, m2⟩ := gv_mx hm g1
  refine ⟨⟨_, m1, by rw [m2, g3]⟩, fun M hM => ?_⟩
  obtain ⟨k1, k2⟩ := mx_gv hm hM
  rw [← k2]
  exact g4 _ k1 (sub_all hm k1)
theorem most_bstA {ts : List (List Int)} (hm : OkT ts) {j : Nat} (hj : j < wT ts) {b : Int} (h : IsMost ts ((2 ^ wT ts - 1) ^^^ 2 ^ j) b) : BstA ts.length (wT ts) (tv ts) j b := by
  obtain ⟨⟨g, g1, g2, g3⟩, g4⟩ := h
  obtain ⟨m1, m2⟩ := gv_mx hm g1
  refine ⟨⟨_, m1, (sub_but hm g1 hj).mp g2, by rw [m2, g3]⟩, fun M hM hA => ?_⟩
  obtain ⟨k1, k2⟩ := mx_gv hm hM
  rw [← k2]
  refine g4 _ k1 ((sub_but hm k1 hj).mpr fun i hi => ?_)
  rw [fnG_gFn hi]
  exact hA i hi
/-- prices hold -/
def Fine (ts : List (List Int)) (ls us : List Int) : Prop := (∀ z ∈ ls ++ us, 0 ≤ z ∧ z ≤ 999) ∧ ∀ i, i < ts.length → ∀ j, j < wT ts → tv ts i j ≤ ls.getD i 0 + us.getD j 0
/-- the greatest of 0 and what is left of a row's worths -/
def MaxOf (r us : List Int) (z : Int) : Prop := 0 ≤ z ∧ (∀ p ∈ r.zip us, 0 ≤ p.1 → p.1 - p.2 ≤ z) ∧ (z = 0 ∨ ∃ p ∈ r.zip us, 0 ≤ p.1 ∧ z = p.1 - p.2)
structure PrOf (ts : List (List Int)) (b : Int) (ls us : List Int) : Prop where
  most : IsMost ts (2 ^ wT ts - 1) b
  ul : us.length = wT ts
  ll : ls.length = ts.length
  u : ∀ j, j < wT ts → IsMost ts ((2 ^ wT ts - 1) ^^^ 2 ^ j) (b - us.getD j 0)
  l : ∀ i, i < ts.length → MaxOf (ts.getD i []) us (ls.getD i 0)
theorem zip_mem {r us : List Int} (h : r.length = us.length) {p : Int × Int} : p ∈ r.zip us ↔ ∃ j, j < r.length ∧ p = (r.getD j 0, us.getD j 0) := by
  constructor
  · intro hp
    obtain ⟨j, hj⟩ := List.getElem?_of_mem hp
    obtain ⟨h1, h2⟩ := List.getElem?_zip_eq_some.mp hj
    refine ⟨j, (List.getElem?_eq_some_iff.mp h1).1, ?_⟩
    rw [getD_at h1, getD_at h2]
  · rintro ⟨j, hj, rfl⟩
    exact List.mem_of_getElem? (i := j) (List.getElem?_zip_eq_some.mpr ⟨at_getD 0 hj, at_getD 0 (by omega)⟩)
theorem PrOf.fine {ts : List (List Int)} (hm : OkT ts) {b : Int} {ls us : List Int} (h : PrOf ts b ls us) : Fine ts ls us ∧ ls.sum + us.sum = b := by
  have hl : ∀ i, i < ts.length → 0 ≤ ls.getD i 0 ∧ (∀ j, j < wT ts → 0 ≤ tv ts i j → tv ts i j - us.getD j 0 ≤ ls.getD i 0) ∧ (ls.getD i 0 = 0 ∨ ∃ j, j < wT ts ∧ 0 ≤ tv ts i j ∧ ls.getD i 0 = tv ts i j - us.getD j 0) := fun i hi => by
    obtain ⟨h1, h2, h3⟩ := h.l i hi
    have rl := hm.rowlen hi
    have ul := h.ul
    refine ⟨h1, fun j hj hv => h2 _ ((zip_mem (by omega)).mpr ⟨j, by omega, rfl⟩) hv, h3.imp id fun ⟨p, p1, p2, p3⟩ => ?_⟩
    obtain ⟨j, hj, rfl⟩ := (zip_mem (by omega)).mp p1
    exact ⟨j, by omega, p2, p3⟩
  obtain ⟨d1, d2⟩ := duals (u := fun j => us.getD j 0) (l := fun i => ls.getD i 0) (most_bst hm h.most) (fun j hj => most_bstA hm hj (h.u j hj)) hl
  have tb : ∀ i j, i < ts.length → j < wT ts → tv ts i j ≤ 999 := fun i j hi hj => by
    have rl := hm.rowlen hi
    exact ((hm.row _ (List.mem_of_getElem? (at_getD [] hi))).2 _ (List.mem_of_getElem? (at_getD 0 (by omega)))).2
  have ub : ∀ j, j < wT ts → 0 ≤ us.getD j 0 ∧ us.getD j 0 ≤ 999 := fun j hj => by
    obtain ⟨h1, h2⟩ := d1 j hj
    refine ⟨h1, ?_⟩
    rcases h2 with z | ⟨i, hi, z⟩
    · have z : us.getD j 0 = 0 := z
      omega
    · have := tb i j hi hj
      have z : us.getD j 0 ≤ tv ts i j := z
      omega
  refine ⟨⟨fun z hz => ?_, fun i hi j hj => ?_⟩, ?_⟩
  · rcases List.mem_append.mp hz with hz | hz
    · obtain ⟨i, hi⟩ := List.getElem?_of_mem hz
      have il := (List.getElem?_eq_some_iff.mp hi).1
      rw [← getD_at (d := 0) hi]
      have ll := h.ll
      obtain ⟨h1, _, h3⟩ := hl i (by omega)
      refine ⟨h1, ?_⟩
      rcases h3 with z | ⟨j, j1, _, j3⟩
      · omega
      · have := tb i j (by omega) j1
        have := (ub j j1).1
        omega
    · obtain ⟨j, hj⟩ := List.getElem?_of_mem hz
      have jl := (List.getElem?_eq_some_iff.mp hj).1
      rw [← getD_at (d := 0) hj]
      have ul := h.ul
      exact ub j (by omega)
  · obtain ⟨h1, h2, _⟩ := hl i hi
    have := ub j hj
    by_cases q : 0 ≤ tv ts i j
    · have := h2 j hj q
      omega
    · omega
  · rw [sumN_list, sumN_list, h.ll, h.ul]
    exact d2
theorem zipD_map {α β : Type} (f : α → D) (h : β → D) (as : List α) (bs : List β) : zipD (as.map f) (bs.map h) = (as.zip bs).map fun p => D.tup [f p.1, h p.2] := by
  unfold zipD
  rw [List.zip_map, List.map_map]
  rfl
theorem rg_at {w j : Nat} (h : j < w) : (rg 0 w).getD j 0 = (j : Int) := by
  refine getD_at ?_
  unfold rg
  rw [List.getElem?_map, List.getElem?_range h]
  show some ((0 : Int) + (j : Int)) = _
  rw [Int.zero_add]
def S_prices : DSp := fun ds Q E => match ds with
  | [d] => Sh 5 d ∧ (¬ IsT d → E "table") ∧ ∀ ts, d = encT ts → OkT ts → ∀ b ls us, PrOf ts b ls us → Q (.tup [.tup (ls.map D.int), .tup (us.map D.int)])
  | _ => False

def w_prices (EX : Str → Prop) : WS := sSeq (sDrop (wCall S_require EX (wAs (wCall S_is_table EX (wAs (wVar 0) (wA0))) (wAs (wC (.str "table")) (wA0)))))
  (sSeq (sSet 1 (wNd (wCall S_all_orders EX (wAs (wVar 0) (wA0)))))
  (sSeq (sSet 2 (wNd (wCall S_most_of EX (wAs (wVar 0) (wAs (wVar 1) (wA0))))))
  (sSeq (sSet 3 (wNd (wFz (wLc (iR1 (wB len1 (wSs (wD (wOp ixS (wSlot 0) (wD (wC (.int 0))))) (wSs0)))) (bName 5) (ts0) (wOp subW (wSlot 2) (wD (wCall S_most_of (fun _ => False) (wAs (wVar 0) (wAs (wOp xorW (wSlot 1) (wD (wOp shlW (wD (wC (.int 1))) (wSlot 5)))) (wA0)))))) [5]))))
  (sSeq (sSet 4 (wNd (wFz (wLc (iSeq (wSlot 0)) (bName 6) (ts0) (wB max1 (wSs (wD (wFz (wOpL catW (wD (wFz (wLst (wAs (wC (.int 0)) (wA0))))) (wD (wFz (wLc (iZip (wSlot 6) (wSlot 3)) (bTup 2 (bCons (bName 7) (bCons (bName 8) (bNil)))) (tBl (wOp geW (wSlot 7) (wD (wC (.int 0))))) (wOp subW (wSlot 7) (wSlot 8)) [7, 8])))))) (wSs0))) [6]))))
  (sRet (wTup (wAs (wB tuple1 (wSs (wSlot 4) (wSs0))) (wAs (wB tuple1 (wSs (wSlot 3) (wSs0))) (wA0)))))))))
def N_prices : List Str := ["table", "whole", "best", "orders", "logs", "order", "row", "own", "price"]
/-- a value that is prices -/
structure IsPr (ts : List (List Int)) (v : D) (ls us : List Int) : Prop where
  eq : v = .tup [.tup (ls.map D.int), .tup (us.map D.int)]
  ll : ls.length = ts.length
  ul : us.length = wT ts
  fine : Fine ts ls us
def S_is_prices : DSp := fun ds Q E => match ds with
  | [d, v] => Sh 5 d ∧ Sh 5 v ∧ (¬ IsT d → E "table") ∧ ∀ ts, d = encT ts → OkT ts → ((¬ ∃ ls us, IsPr ts v ls us) → Q (.bl false)) ∧ ∀ ls us, IsPr ts v ls us → Q (.bl true)
  | _ => False
theorem fine_rows {ts : List (List Int)} (hm : OkT ts) {ls us : List Int} (ul : us.length = wT ts) : (∀ i, i < ts.length → ∀ j, j < wT ts → tv ts i j ≤ ls.getD i 0 + us.getD j 0) ↔ ∀ i, i < ts.length → ∀ p ∈ (ts.getD i []).zip us, p.1 ≤ ls.getD i 0 + p.2 := by
  constructor
  · intro h i hi p hp
    have rl := hm.rowlen hi
    obtain ⟨j, hj, rfl⟩ := (zip_mem (by omega)).mp hp
    exact h i hi j (by omega)
  · intro h i hi j hj
    have rl := hm.rowlen hi
    exact h i hi _ ((zip_mem (by omega)).mpr ⟨j, by omega, rfl⟩)
theorem ip_inj {a b c d : List Int} (h : D.tup [.tup (a.map D.int), .tup (b.map D.int)] = D.tup [.tup (c.map D.int), .tup (d.map D.int)]) : a = c ∧ b = d := by
  injection h with h
  injection h with h1 h2
  injection h2 with h2 _
  injection h1 with h1
  injection h2 with h2
  exact ⟨ints_inj h1, ints_inj h2⟩

def w_is_prices (EX : Str → Prop) : WS := sSeq (sDrop (wCall S_require EX (wAs (wCall S_is_table EX (wAs (wVar 0) (wA0))) (wAs (wC (.str "table")) (wA0)))))
  (sSeq (sIf (tOr (tNot (tTru (wD (wCall S_is_row EX (wAs (wVar 1) (wAs (wC (.int 2)) (wAs (wC (.int 2)) (wA0)))))))) (tNot (tTru (wD (wCall S_are_wholes EX (wAs (wOp ixS (wSlot 1) (wD (wC (.int 0)))) (wAs (wB len1 (wSs (wSlot 0) (wSs0))) (wAs (wC (.int 0)) (wAs (wC (.int 999)) (wA0)))))))))) (sRet (wC (.bl false))) (sNext))
  (sSeq (sIf (tNot (tTru (wD (wCall S_are_wholes EX (wAs (wOp ixS (wSlot 1) (wD (wC (.int 1)))) (wAs (wB len1 (wSs (wD (wOp ixS (wSlot 0) (wD (wC (.int 0))))) (wSs0))) (wAs (wC (.int 0)) (wAs (wC (.int 999)) (wA0))))))))) (sRet (wC (.bl false))) (sNext))
  (sSeq (sFor (iZip (wD (wVar 0)) (wD (wOp ixS (wSlot 1) (wD (wC (.int 0)))))) (bTup 2 (bCons (bName 2) (bCons (bName 3) (bNil)))) (sIf (tTru (wD (wB any1 (wSs (wD (wFz (wLc (iZip (wSlot 2) (wD (wOp ixS (wSlot 1) (wD (wC (.int 1)))))) (bTup 2 (bCons (bName 4) (bCons (bName 5) (bNil)))) (ts0) (wOp gtW (wSlot 4) (wD (wOp addW (wSlot 3) (wSlot 5)))) [4, 5]))) (wSs0))))) (sRet (wC (.bl false))) (sNext)))
  (sRet (wC (.bl true))))))
def N_is_prices : List Str := ["table", "value", "row", "log", "own", "order"]
def S__law_taken : DSp := fun ds Q _ => ∃ m : Int, ds = [.row, .int m] ∧ 0 < m ∧ m < 2 ^ 200 ∧ ∀ v, 0 ≤ v → v < m → Q (.int v)
theorem taken_e {m : Int} {Q : D → Prop} {E : Str → Prop} (h0 : 0 < m) (h1 : m < 2 ^ 200) (h : ∀ v, 0 ≤ v → v < m → Q (.int v)) : S__law_taken [.row, .int m] Q E := ⟨m, rfl, h0, h1, h⟩

def S__law_pick : DSp := fun ds Q _ => match ds with
  | [.row, .lst xs] => xs ≠ [] ∧ xs.length ≤ 1000000 ∧ ∀ x ∈ xs, Q x
  | [.row, .tup xs] => xs ≠ [] ∧ xs.length ≤ 1000000 ∧ ∀ x ∈ xs, Q x
  | _ => False
theorem pick_l (xs : List D) (Q : D → Prop) (E : Str → Prop) : S__law_pick [.row, .lst xs] Q E = (xs ≠ [] ∧ xs.length ≤ 1000000 ∧ ∀ x ∈ xs, Q x) := rfl
theorem pick_t (xs : List D) (Q : D → Prop) (E : Str → Prop) : S__law_pick [.row, .tup xs] Q E = (xs ≠ [] ∧ xs.length ≤ 1000000 ∧ ∀ x ∈ xs, Q x) := rfl
theorem pick_i {Q : D → Prop} {E : Str → Prop} (ns : List Int) (h0 : 0 < ns.length) (h1 : ns.length ≤ 1000000) (h : ∀ n ∈ ns, Q (.int n)) : S__law_pick [.row, .lst (ns.map .int)] Q E :=
  by
    rw [pick_l]
    refine ⟨fun e => ?_, by rw [List.length_map]; exact h1, fun x hx => ?_⟩
    · rw [List.map_eq_nil_iff] at e
      rw [e] at h0
      cases h0
    · obtain ⟨n, hn, rfl⟩ := List.mem_map.mp hx
      exact h n hn

def w__law_pick (EX : Str → Prop) : WS := sRet (wOp ixS (wSlot 1) (wD (wCall S__law_taken EX (wAs (wVar 0) (wAs (wB len1 (wSs (wSlot 1) (wSs0))) (wA0))))))
def N__law_pick : List Str := ["row", "some"]
/-- what _law_alike looks through: no lists -/
def Al : Nat → D → Prop
  | _, .non => True
  | _, .bl _ => True
  | _, .int _ => True
  | _, .str x => PyData.strOk x = true
  | n + 1, .tup xs => xs.length ≤ 1000000 ∧ ∀ x ∈ xs, Al n x
  | _, _ => False
def alSp (n : Nat) : DSp := fun ds Q _ => match ds with
  | [d, e] => d = e ∧ Al n d ∧ Q (.bl true)
  | _ => False
def S__law_alike : Nat → DSp
  | 0 => fun _ _ _ => False
  | n + 1 => alSp n
theorem al_e (n : Nat) (d e : D) (Q : D → Prop) (E : Str → Prop) : S__law_alike (n + 1) [d, e] Q E = (d = e ∧ Al n d ∧ Q (.bl true)) := rfl
@[simp] theorem al_non (n : Nat) : Al n .non = True := by cases n <;> rfl
@[simp] theorem al_bl (n : Nat) (b : Bool) : Al n (.bl b) = True := by cases n <;> rfl
@[simp] theorem al_int (n : Nat) (i : Int) : Al n (.int i) = True := by cases n <;> rfl
@[simp] theorem al_str (n : Nat) (x : Str) : Al n (.str x) = (PyData.strOk x = true) := by cases n <;> rfl
@[simp] theorem al_tup (n : Nat) (xs : List D) : Al (n + 1) (.tup xs) = (xs.length ≤ 1000000 ∧ ∀ x ∈ xs, Al n x) := rfl
theorem l__law_alike (n : Nat) (ds : List D) (Q : D → Prop) (E : Str → Prop) (h : S__law_alike (n + 1) ds Q E) : ds.length = 2 := by
  replace h : alSp n ds Q E := h
  unfold alSp at h
  split at h
  · rfl
  · exact h.elim

def w__law_alike (s : DSp) (EX : Str → Prop) : WS := sSeq (sIf (tTru (wD (wIsi .tuple (wSlot 1)))) (sSeq (sIf (tOr (tNot (tTru (wD (wIsi .tuple (wSlot 0))))) (tBl (wOp neW (wD (wB len1 (wSs (wSlot 0) (wSs0)))) (wD (wB len1 (wSs (wSlot 1) (wSs0))))))) (sRet (wC (.bl false))) (sNext))
  (sRet (wOp eqW (wD (wFz (wLc (iR1 (wB len1 (wSs (wSlot 1) (wSs0)))) (bName 2) (tNot (tTru (wD (wCall s (fun _ => False) (wAs (wOp ixS (wSlot 0) (wSlot 2)) (wAs (wOp ixS (wSlot 1) (wSlot 2)) (wA0))))))) (wVar 2) [2]))) (wD (wFz (wLst (wA0))))))) (sNext))
  (sSeq (sIf (tOr (tBl (wOp isW (wSlot 1) (wD (wC .non)))) (tTru (wD (wIsi .str (wSlot 1))))) (sRet (wAndV (wOp eqW (wSlot 0) (wSlot 1)) (wOp eqW (wD (wIsi .str (wSlot 0))) (wD (wIsi .str (wSlot 1)))))) (sNext))
  (sRet (wAndV (wIsi .int (wSlot 0)) (wAndV (wOp eqW (wD (wIsi .bool (wSlot 0))) (wD (wIsi .bool (wSlot 1)))) (wOp eqW (wSlot 0) (wSlot 1))))))
def N__law_alike : List Str := ["found", "due", "at"]
def S__law_table : DSp := fun ds Q _ => match ds with
  | [.row] => ∀ ts, OkT ts → ts.length ≤ 6 → wT ts ≤ 6 → Q (encT ts)
  | _ => False

def w__law_table (EX : Str → Prop) : WS := sSeq (sAsg (wTup (wAs (wOp addW (wD (wC (.int 1))) (wD (wCall S__law_taken EX (wAs (wVar 0) (wAs (wC (.int 6)) (wA0)))))) (wAs (wCall S__law_taken EX (wAs (wVar 0) (wAs (wC (.int 4)) (wA0)))) (wAs (wCall S__law_pick EX (wAs (wVar 0) (wAs (wFz (wLst (wAs (wC (.int 2)) (wAs (wC (.int 9)) (wAs (wC (.int 1000)) (wA0)))))) (wA0)))) (wA0))))) (bTup 3 (bCons (bName 1) (bCons (bName 2) (bCons (bName 3) (bNil))))))
  (sSeq (sSet 4 (wNo (wLst (wA0))))
  (sSeq (sFor (iR1 (wOp addW (wD (wC (.int 1))) (wD (wCall S__law_taken EX (wAs (wVar 0) (wAs (wC (.int 6)) (wA0))))))) (bName 5) (sAppend 4 (wB tuple1 (wSs (wD (wFz (wLc (iR1 (wVar 1)) (bName 6) (ts0) (wIf (tBl (wOp ltW (wD (wCall S__law_taken (fun _ => False) (wAs (wVar 0) (wAs (wC (.int 4)) (wA0))))) (wSlot 2))) (wUn negW (wD (wC (.int 1)))) (wCall S__law_taken (fun _ => False) (wAs (wVar 0) (wAs (wVar 3) (wA0))))) [6]))) (wSs0)))))
  (sRet (wB tuple1 (wSs (wSlot 4) (wSs0))))))
def N__law_table : List Str := ["row", "wide", "gaps", "most", "found", "log", "order"]
theorem fa2_snoc {α β : Type} {R : α → β → Prop} {a : α} : ∀ {as : List α} {bs : List β}, Fa2 R (as ++ [a]) bs → ∃ bs' b, bs = bs' ++ [b] ∧ Fa2 R as bs' ∧ R a b
  | [], _, .cons h .nil => ⟨[], _, rfl, .nil, h⟩
  | x :: as, _, .cons h t => by
    obtain ⟨bs', b, rfl, h1, h2⟩ := fa2_snoc t
    exact ⟨_ :: bs', b, rfl, .cons h h1, h2⟩
theorem fa2_add {α β : Type} {R : α → β → Prop} {a : α} {b : β} : ∀ {as : List α} {bs : List β}, Fa2 R as bs → R a b → Fa2 R (as ++ [a]) (bs ++ [b])
  | _, _, .nil, h => .cons h .nil
  | _, _, .cons x t, h => .cons x (fa2_add t h)
theorem os_app (g h : List Int) : os (g ++ h) = os g ++ os h := by
  unfold os
  rw [List.filter_append, List.map_append]
theorem msk_app (js : List Nat) (j : Nat) : msk (js ++ [j]) = msk js ||| 2 ^ j := by
  have : msk (js ++ [j]) = msk (j :: js) := msk_ext fun k => by simp [or_comm]
  rw [this]
  rfl
theorem sub_of {rs : List (List Int)} {m : Nat} (hr : ∀ r ∈ rs, r.length ≤ m) {g : List Int} (hg : Gv rs g) : Sub (2 ^ m - 1) g := fun j hj => by
  rw [Nat.testBit_two_pow_sub_one]
  exact decide_eq_true (os_lt hg.ok hr j hj)
theorem gv_skip {rs : List (List Int)} {row g : List Int} (h : Gv rs g) : Gv (rs ++ [row]) (g ++ [-1]) ∧ os (g ++ [-1]) = os g ∧ wr (rs ++ [row]) (g ++ [-1]) = wr rs g := by
  have e : os (g ++ [-1]) = os g := by
    rw [os_app]
    show os g ++ [] = _
    rw [List.append_nil]
  refine ⟨⟨fa2_add h.ok (.inl rfl), by rw [e]; exact h.nd⟩, e, ?_⟩
  rw [wr_app _ _ h.ok.length]
  show wr rs g + (cw row (-1) + 0) = _
  rw [cw_non]
  omega
theorem gv_give {rs : List (List Int)} {row g : List Int} {j : Nat} (h : Gv rs g) (hj : j < row.length) (h0 : 0 ≤ row.getD j 0) (nb : ¬ j ∈ os g) : Gv (rs ++ [row]) (g ++ [(j : Int)]) ∧ msk (os (g ++ [(j : Int)])) = msk (os g) ||| 2 ^ j ∧ wr (rs ++ [row]) (g ++ [(j : Int)]) = wr rs g + row.getD j 0 := by
  have e : os (g ++ [(j : Int)]) = os g ++ [j] := by rw [os_app, os_some]; rfl
  refine ⟨⟨fa2_add h.ok (.inr ⟨j, rfl, hj, h0⟩), by rw [e]; exact List.nodup_append.mpr ⟨h.nd, by simp, fun a ha b hb z => nb (by rw [← List.mem_singleton.mp hb, ← z]; exact ha)⟩⟩, by rw [e, msk_app], ?_⟩
  rw [wr_app _ _ h.ok.length]
  show wr rs g + (cw row (j : Int) + 0) = _
  rw [cw_some]
  omega
structure TabS (rs : List (List Int)) (row : List Int) (known later : List (Int × D)) (a b : Nat) : Prop where
  nd : (later.map (·.1)).Nodup
  sound : ∀ k d, lookI later k = some d → ∃ g, Gv (rs ++ [row]) g ∧ k = (msk (os g) : Int) ∧ d = .int (wr (rs ++ [row]) g)
  base : ∀ k t, lookI known k = some (.int t) → ∃ t', lookI later k = some (.int t') ∧ t ≤ t'
  done : ∀ (i : Nat) (p : Int × D) (U j : Nat) (t : Int), known[i]? = some p → p.1 = (U : Int) → (i < a ∨ (i = a ∧ j < b)) → j < row.length → U.testBit j = false → 0 ≤ row.getD j 0 → lookI known p.1 = some (.int t) → ∃ t', lookI later ((U ||| 2 ^ j : Nat) : Int) = some (.int t') ∧ t + row.getD j 0 ≤ t'
theorem tabS_0 {rs : List (List Int)} {row : List Int} {om : Nat} {known : List (Int × D)} (T : TabG rs om known) : TabS rs row known known 0 0 :=
  ⟨T.nd, fun k d h => by
    obtain ⟨g, h1, _, h3, h4⟩ := T.sound k d h
    obtain ⟨w1, w2, w3⟩ := gv_skip (row := row) h1
    exact ⟨_, w1, by rw [w2]; exact h3, by rw [w3]; exact h4⟩, fun k t h => ⟨t, h, Int.le_refl _⟩, fun i p U j t _ _ h => (by omega)⟩
theorem TabS.weak {rs : List (List Int)} {row : List Int} {known later : List (Int × D)} {a b a' b' : Nat} (S : TabS rs row known later a b) (w : ∀ (i : Nat) (p : Int × D) (U j : Nat), known[i]? = some p → p.1 = (U : Int) → (i < a' ∨ (i = a' ∧ j < b')) → j < row.length → U.testBit j = false → 0 ≤ row.getD j 0 → (i < a ∨ (i = a ∧ j < b))) : TabS rs row known later a' b' :=
  ⟨S.nd, S.sound, S.base, fun i p U j t h1 h2 h3 h4 h5 h6 => S.done i p U j t h1 h2 (w i p U j h1 h2 h3 h4 h5 h6) h4 h5 h6⟩
theorem TabS.put {rs : List (List Int)} {row : List Int} {om : Nat} {known later : List (Int × D)} {a b U : Nat} {p : Int × D} {t o : Int} (T : TabG rs om known) (S : TabS rs row known later a b) (hp : known[a]? = some p) (hU : p.1 = (U : Int)) (hb : b < row.length) (nb : U.testBit b = false) (r0 : 0 ≤ row.getD b 0) (ht : lookI known p.1 = some (.int t))
    (ho : (lookI later ((U ||| 2 ^ b : Nat) : Int)).getD (.int 0) = .int o) : TabS rs row known (putD later ((U ||| 2 ^ b : Nat) : Int) (.int (max o (t + row.getD b 0)))) a (b + 1) := by
  have more : ∀ k x, lookI later k = some (.int x) → ∃ x', lookI (putD later ((U ||| 2 ^ b : Nat) : Int) (.int (max o (t + row.getD b 0)))) k = some (.int x') ∧ x ≤ x' := fun k x hk => by
    rw [lookI_K, lookK_put]
    by_cases e : k = ((U ||| 2 ^ b : Nat) : Int)
    · rw [if_pos e]
      rw [e] at hk
      rw [hk] at ho
      injection ho with ho
      exact ⟨_, rfl, by omega⟩
    · rw [if_neg e]
      exact ⟨x, hk, Int.le_refl _⟩
  obtain ⟨t0, et, ⟨g, g1, g2, g3, g4⟩, _⟩ := T.val ht
  injection et with et
  have tn : 0 ≤ t := by rw [et, g4]; exact wr_nn g1.ok
  have gb : ¬ b ∈ os g := fun z => by
    rw [show U = msk (os g) by omega, msk_bit, decide_eq_true z] at nb
    cases nb
  obtain ⟨w1, w2, w3⟩ := gv_give g1 hb r0 gb
  refine ⟨putD_nodup S.nd, fun k d hk => ?_, fun k x hk => ?_, fun i q V j x h1 h2 h3 h4 h5 h6 h7 => ?_⟩
  · rw [lookI_K, lookK_put] at hk
    by_cases e : k = ((U ||| 2 ^ b : Nat) : Int)
    · rw [if_pos e] at hk
      cases hk
      rcases Int.le_total o (t + row.getD b 0) with w | w
      · rw [Int.max_eq_right w]
        exact ⟨_, w1, by rw [w2, e, show U = msk (os g) by omega], by rw [w3, ← g4, ← et]⟩
      · rw [Int.max_eq_left w]
        cases hl : lookI later ((U ||| 2 ^ b : Nat) : Int) with
        | some d =>
          rw [hl] at ho
          have ho : d = .int o := ho
          rw [e, ← ho]
          exact S.sound _ _ hl
        | none =>
          rw [hl] at ho
          injection ho with ho
          have : o = t + row.getD b 0 := by omega
          rw [this]
          exact ⟨_, w1, by rw [w2, e, show U = msk (os g) by omega], by rw [w3, ← g4, ← et]⟩
    · rw [if_neg e] at hk
      exact S.sound k d hk
  · obtain ⟨x1, h1, h2⟩ := S.base k x hk
    obtain ⟨x2, h3, h4⟩ := more _ _ h1
    exact ⟨x2, h3, by omega⟩
  · by_cases e : i = a ∧ j = b
    · obtain ⟨rfl, rfl⟩ := e
      rw [hp] at h1
      cases h1
      rw [ht] at h7
      injection h7 with h7
      injection h7 with h7
      have : V = U := by omega
      subst this
      refine ⟨max o (t + row.getD j 0), ?_, by omega⟩
      rw [lookI_K, lookK_put, if_pos rfl]
    · obtain ⟨x1, k1, k2⟩ := S.done i q V j x h1 h2 (by omega) h4 h5 h6 h7
      obtain ⟨x2, k3, k4⟩ := more _ _ k1
      exact ⟨x2, k3, by omega⟩
theorem TabS.all {rs : List (List Int)} {row : List Int} {m : Nat} {known later : List (Int × D)} (T : TabG rs (2 ^ m - 1) known) (S : TabS rs row known later known.length 0) (hr : ∀ r ∈ rs ++ [row], r.length ≤ m) : TabG (rs ++ [row]) (2 ^ m - 1) later := by
  refine ⟨S.nd, fun k d h => ?_, fun g' hg' _ => ?_⟩
  · obtain ⟨g, h1, h2, h3⟩ := S.sound k d h
    exact ⟨g, h1, sub_of hr h1, h2, h3⟩
  · obtain ⟨g, z, rfl, h1, h2⟩ := fa2_snoc hg'.ok
    have nd := hg'.nd
    rw [os_app] at nd
    have G : Gv rs g := ⟨h1, (List.nodup_append.mp nd).1⟩
    have hr' : ∀ r ∈ rs, r.length ≤ m := fun r h => hr r (List.mem_append_left _ h)
    obtain ⟨t, e1, e2⟩ := T.best g G (sub_of hr' G)
    rcases h2 with rfl | ⟨j, rfl, hj, h0⟩
    · obtain ⟨_, w2, w3⟩ := gv_skip (row := row) G
      rw [w2, w3]
      obtain ⟨t', k1, k2⟩ := S.base _ _ e1
      exact ⟨t', k1, by omega⟩
    · rw [os_some] at nd
      have gb : ¬ j ∈ os g := fun z => (List.nodup_append.mp nd).2.2 j z j List.mem_cons_self rfl
      obtain ⟨_, w2, w3⟩ := gv_give G hj h0 gb
      rw [w2, w3]
      have mk := lookK_some (show lookK known _ = some _ from e1)
      obtain ⟨p, hp, ep⟩ := List.mem_map.mp mk
      obtain ⟨i, hi⟩ := List.getElem?_of_mem hp
      have il := (List.getElem?_eq_some_iff.mp hi).1
      obtain ⟨t', k1, k2⟩ := S.done i p (msk (os g)) j t hi ep (.inl il) hj (by rw [msk_bit]; exact decide_eq_false gb) h0 (by rw [ep]; exact e1)
      exact ⟨t', k1, by omega⟩
def S__law_most : DSp := fun ds Q _ => match ds with
  | [d] => ∃ ts, d = encT ts ∧ OkT ts ∧ ∀ t, IsMost ts (2 ^ wT ts - 1) t → Q (.int t)
  | _ => False

def w__law_most (EX : Str → Prop) : WS := sSeq (sSet 1 (wNd (wFzI (wDisp1 (wC (.int 0)) (wC (.int 0))))))
  (sSeq (sFor (iSeq (wD (wVar 0))) (bName 2) (sSeq (sSet 3 (wNoI (wCopyI (wSlot 1))))
  (sSeq (sFor (iDk (wVar 1)) (bName 4) (sFor (iR1 (wB len1 (wSs (wSlot 2) (wSs0)))) (bName 5) (sIf (tAnd (tBl (wOp eqW (wD (wOp andW (wD (wOp shrW (wSlot 4) (wSlot 5))) (wD (wC (.int 1))))) (wD (wC (.int 0))))) (tBl (wOp geW (wD (wOp ixS (wSlot 2) (wSlot 5))) (wD (wC (.int 0)))))) (sSeq (sSet 6 (wNd (wOp orW (wSlot 4) (wD (wOp shlW (wD (wC (.int 1))) (wSlot 5))))))
  (sPutI 3 (wVar 6) (wB max2 (wSs (wD (wGet (wSlot 3) (wSlot 6) (wC (.int 0)))) (wSs (wD (wOp addW (wD (wOp dgW (wSlot 1) (wSlot 4))) (wD (wOp ixS (wSlot 2) (wSlot 5))))) (wSs0)))))) (sNext))))
  (sSet 1 (wNd (wVar 3))))))
  (sRet (wB max1 (wSs (wD (wFz (wLc (iDk (wVar 1)) (bName 4) (ts0) (wOp dgW (wSlot 1) (wSlot 4)) [4]))) (wSs0)))))
def N__law_most : List Str := ["table", "known", "line", "later", "own", "order", "key"]
def S__law_fine : DSp := fun ds Q _ => match ds with
  | [d, a, b] => ∃ ts ls us, d = encT ts ∧ OkT ts ∧ (a = .tup (ls.map D.int) ∨ a = .lst (ls.map D.int)) ∧ (b = .tup (us.map D.int) ∨ b = .lst (us.map D.int)) ∧ ls.length = ts.length ∧ us.length = wT ts ∧ (Fine ts ls us → Q (.bl true)) ∧ (¬ Fine ts ls us → Q (.bl false))
  | _ => False
theorem eqDs_e9 (xs : List D) : eqDs xs [] = xs.isEmpty := by cases xs <;> rfl

def w__law_fine (EX : Str → Prop) : WS := sSeq (sIf (tBl (wOp neW (wD (wFz (wLc (iSeq (wD (wFz (wOpL catW (wD (wFz (wBL list1 (wSs (wSlot 1) (wSs0))))) (wD (wFz (wBL list1 (wSs (wSlot 2) (wSs0))))))))) (bName 4) (tOr (tBl (wOp ltW (wSlot 4) (wD (wC (.int 0))))) (tBl (wOp gtW (wSlot 4) (wD (wC (.int 999)))))) (wVar 4) [4]))) (wD (wFz (wLst (wA0)))))) (sRet (wC (.bl false))) (sNext))
  (sSeq (sFor (iR1 (wB len1 (wSs (wSlot 0) (wSs0)))) (bName 3) (sIf (tBl (wOp neW (wD (wFz (wLc (iR1 (wB len1 (wSs (wSlot 2) (wSs0)))) (bName 5) (tBl (wOp gtW (wD (wOp ixS (wD (wOp ixS (wSlot 0) (wSlot 3))) (wSlot 5))) (wD (wOp addW (wD (wOp ixS (wSlot 1) (wSlot 3))) (wD (wOp ixS (wSlot 2) (wSlot 5))))))) (wC (.int 1)) [5]))) (wD (wFz (wLst (wA0)))))) (sRet (wC (.bl false))) (sNext)))
  (sRet (wC (.bl true))))
def N__law_fine : List Str := ["table", "logs", "orders", "at", "own", "order"]
def S__law_case : DSp := fun ds Q _ => match ds with
  | [.row] => Q (.bl true)
  | _ => False
def BadT (d : D) : Prop := Sh 5 d ∧ ¬ IsT d
theorem badT_rows (rs : List (List Int)) (w : OkT rs → False) : BadT (.tup (rs.map fun r => D.tup (r.map D.int))) := ⟨sh_encT rs 3, fun ⟨zs, e, hz⟩ => by
  cases encT_inj (s := rs) e
  exact w hz⟩
/-- the wrong tables that the laws draw -/
theorem badT_of {o : D} (ho : o ∈ [D.non, .tup [], .tup [.tup []], .tup [.tup [.int 1], .tup [.int 1, .int 2]], .tup [.tup [.int (-2)]], .tup [.tup [.int 1000]], .lst [.tup [.int 1]], .tup [.tup [.bl true]]]) : BadT o := by
  simp only [List.mem_cons, List.not_mem_nil, or_false] at ho
  rcases ho with rfl | rfl | rfl | rfl | rfl | rfl | rfl | rfl
  · exact ⟨by simp, fun ⟨zs, e, hz⟩ => by cases e⟩
  · exact badT_rows [] fun w => by have := w.len; simp at this
  · exact badT_rows [[]] fun w => by have := w.wid; unfold wT at this; simp at this
  · exact badT_rows [[1], [1, 2]] fun w => by have := (w.row [1, 2] (by simp)).1; unfold wT at this; simp at this
  · exact badT_rows [[-2]] fun w => by have := (w.row [-2] (by simp)).2 (-2) (by simp); omega
  · exact badT_rows [[1000]] fun w => by have := (w.row [1000] (by simp)).2 1000 (by simp); omega
  · exact ⟨by simp, fun ⟨zs, e, hz⟩ => by cases e⟩
  · refine ⟨by simp, fun ⟨zs, e, hz⟩ => ?_⟩
    unfold encT at e
    injection e with e
    cases zs with
    | nil => cases e
    | cons z r =>
      injection e with e1 e2
      injection e1 with e1
      cases z with
      | nil => cases e1
      | cons a z =>
        injection e1 with e3 e4
        cases e3

def w__law_case (EX : Str → Prop) : WS := sSeq (sSet 1 (wNd (wCall S__law_table EX (wAs (wVar 0) (wA0)))))
  (sSeq (sAsg (wCall S_prices EX (wAs (wVar 1) (wA0))) (bTup 2 (bCons (bName 2) (bCons (bName 3) (bNil)))))
  (sSeq (sIf (tOr (tNot (tTru (wD (wIsi .tuple (wSlot 2))))) (tOr (tNot (tTru (wD (wIsi .tuple (wSlot 3))))) (tOr (tBl (wOp neW (wD (wB len1 (wSs (wSlot 2) (wSs0)))) (wD (wB len1 (wSs (wSlot 1) (wSs0)))))) (tBl (wOp neW (wD (wB len1 (wSs (wSlot 3) (wSs0)))) (wD (wB len1 (wSs (wD (wOp ixS (wSlot 1) (wD (wC (.int 0))))) (wSs0))))))))) (sRet (wC (.bl false))) (sNext))
  (sSeq (sIf (tOr (tNot (tTru (wD (wCall S__law_fine EX (wAs (wVar 1) (wAs (wVar 2) (wAs (wVar 3) (wA0)))))))) (tOr (tBl (wOp neW (wD (wOp addW (wD (wB sumT (wSs (wSlot 2) (wSs0)))) (wD (wB sumT (wSs (wSlot 3) (wSs0)))))) (wD (wCall S__law_most EX (wAs (wVar 1) (wA0)))))) (tNot (tTru (wD (wCall S_is_prices EX (wAs (wVar 1) (wAs (wTup (wAs (wVar 2) (wAs (wVar 3) (wA0)))) (wA0))))))))) (sRet (wC (.bl false))) (sNext))
  (sSeq (sFor (iR1 (wC (.int 6))) (bName 4) (sSeq (sPar [5, 6] (wNs (wNo (wBL list1 (wSs (wSlot 2) (wSs0)))) (wNs (wNo (wBL list1 (wSs (wSlot 3) (wSs0)))) (wNs0))))
  (sSeq (sPick3 0 5 6 7 8 (wCall S__law_taken EX (wAs (wVar 0) (wAs (wB len1 (wSs (wSlot 7) (wSs0))) (wA0)))) (wOp subW (wD (wOp addW (wD (wOp ixS (wSlot 7) (wSlot 8))) (wD (wCall S__law_taken EX (wAs (wVar 0) (wAs (wC (.int 4)) (wA0))))))) (wD (wC (.int 2))))) (sSeq (sIf (tBl (wOp eqW (wD (wCall S__law_taken EX (wAs (wVar 0) (wAs (wC (.int 3)) (wA0))))) (wD (wC (.int 0))))) (sPar [5, 6] (wNs (wNo (wLc (iSeq (wSlot 5)) (bName 13) (ts0) (wB max2 (wSs (wD (wC (.int 0))) (wSs (wD (wOp subW (wSlot 13) (wD (wC (.int 1))))) (wSs0)))) [13])) (wNs (wNo (wLc (iSeq (wSlot 6)) (bName 13) (ts0) (wOp addW (wSlot 13) (wD (wC (.int 1)))) [13])) (wNs0)))) (sNext))
  (sIf (tBl (wOp isnW (wD (wCallK S_is_prices EX 1 1 (wAs (wVar 1) (wA0)) (wAs (wTup (wAs (wB tuple1 (wSs (wSlot 5) (wSs0))) (wAs (wB tuple1 (wSs (wSlot 6) (wSs0))) (wA0)))) (wA0)))) (wD (wCall S__law_fine EX (wAs (wVar 1) (wAs (wVar 5) (wAs (wVar 6) (wA0)))))))) (sRet (wC (.bl false))) (sNext))))))
  (sSeq (sSet 9 (wNd (wTup (wAs (wC .non) (wAs (wTup (wAs (wVar 2) (wA0))) (wAs (wFz (wLst (wAs (wVar 2) (wAs (wVar 3) (wA0))))) (wAs (wTup (wAs (wOp addW (wSlot 2) (wD (wTup (wAs (wC (.int 0)) (wA0))))) (wAs (wVar 3) (wA0)))) (wAs (wTup (wAs (wVar 2) (wAs (wFz (wBL list1 (wSs (wSlot 3) (wSs0)))) (wA0)))) (wAs (wTup (wAs (wVar 2) (wAs (wOp mulW2 (wD (wTup (wAs (wC (.bl true)) (wA0)))) (wD (wB len1 (wSs (wSlot 3) (wSs0))))) (wA0)))) (wA0))))))))))
  (sSeq (sSet 10 (wNd (wFz (wLc (iSeq (wSlot 9)) (bName 14) (ts0) (wCall S_is_prices (fun _ => False) (wAs (wVar 1) (wAs (wVar 14) (wA0)))) [14]))))
  (sSeq (sSet 11 (wNd (wCall S__law_pick EX (wAs (wVar 0) (wAs (wFz (wLst (wAs (wC .non) (wAs (wTup (wA0)) (wAs (wTup (wAs (wTup (wA0)) (wA0))) (wAs (wTup (wAs (wTup (wAs (wC (.int 1)) (wA0))) (wAs (wTup (wAs (wC (.int 1)) (wAs (wC (.int 2)) (wA0)))) (wA0)))) (wAs (wTup (wAs (wTup (wAs (wUn negW (wD (wC (.int 2)))) (wA0))) (wA0))) (wAs (wTup (wAs (wTup (wAs (wC (.int 1000)) (wA0))) (wA0))) (wAs (wFz (wLst (wAs (wTup (wAs (wC (.int 1)) (wA0))) (wA0)))) (wAs (wTup (wAs (wTup (wAs (wC (.bl true)) (wA0))) (wA0))) (wA0))))))))))) (wA0))))))
  (sSeq (sSet 12 (wNd (wFz (wLst (wAs (wRef (fun EX2 => wCall S_prices EX2 (wAs (wVar 11) (wA0)))) (wAs (wRef (fun EX2 => wCall S_is_prices EX2 (wAs (wVar 11) (wAs (wTup (wA0)) (wA0))))) (wA0)))))))
  (sRet (wAndV (wOp eqW (wSlot 10) (wD (wFz (wOpL repW (wD (wFz (wLst (wAs (wC (.bl false)) (wA0))))) (wD (wC (.int 6))))))) (wOp eqW (wSlot 12) (wD (wFz (wOpL repW (wD (wFz (wLst (wAs (wC (.str "table")) (wA0))))) (wD (wC (.int 2)))))))))))))))))
def N__law_case : List Str := ["row", "table", "logs", "orders", "turn", "one", "two", "side", "at", "some", "wrong", "odd", "told", "own", "value"]
/- slots of require: 0 is_right 1 name -/
theorem p_require (ds : List D) (Q : D → Prop) (EX : Str → Prop) (h : S_require ds Q EX) : w_require EX { nx := fun _ => Q .non, rt := Q } (startD N_require ds) := by
  unfold S_require at h
  split at h
  · rename_i b nm
    show w_require EX _ [.dat (.bl b), .dat (.str nm)]
    unfold w_require
    l_fact
    cases b
    · exact h.2 rfl
    · exact h.1 rfl
  · exact h.elim

/- slots of is_whole: 0 value 1 least 2 most -/
theorem p_is_whole (ds : List D) (Q : D → Prop) (EX : Str → Prop) (h : S_is_whole ds Q EX) : w_is_whole EX { nx := fun _ => Q .non, rt := Q } (startD N_is_whole ds) := by
  unfold S_is_whole at h
  split at h
  · rename_i d a b
    obtain ⟨hp, hq⟩ := h
    show w_is_whole EX _ [.dat d, .dat (.int a), .dat (.int b)]
    unfold w_is_whole
    cases d <;> first | exact (show False from hp).elim | (l_fact; first | exact hq | skip)
    rename_i i
    have e : isWhole (.int i) a b = (decide (a ≤ i) && decide (i ≤ b)) := rfl
    rw [e] at hq
    by_cases h1 : a ≤ i
    · rw [if_pos h1]
      rw [decide_eq_true h1, Bool.true_and] at hq
      exact hq
    · rw [if_neg h1]
      rw [decide_eq_false h1, Bool.false_and] at hq
      exact hq
  · exact h.elim

/- slots of is_row: 0 value 1 least 2 most -/
theorem p_is_row (ds : List D) (Q : D → Prop) (EX : Str → Prop) (h : S_is_row ds Q EX) : w_is_row EX { nx := fun _ => Q .non, rt := Q } (startD N_is_row ds) := by
  unfold S_is_row at h
  split at h
  · rename_i d a b
    obtain ⟨hp, hq⟩ := h
    show w_is_row EX _ [.dat d, .dat (.int a), .dat (.int b)]
    unfold w_is_row
    cases d <;> first | exact (show False from hp).elim | (l_fact; first | exact hq | skip)
    rename_i xs
    have e : isRow (.tup xs) a b = (decide (a ≤ (xs.length : Int)) && decide ((xs.length : Int) ≤ b)) := rfl
    rw [e] at hq
    by_cases h1 : a ≤ (xs.length : Int)
    · rw [if_pos h1]
      rw [decide_eq_true h1, Bool.true_and] at hq
      exact hq
    · rw [if_neg h1]
      rw [decide_eq_false h1, Bool.false_and] at hq
      exact hq
  · exact h.elim

/- slots of are_wholes: 0 value 1 many 2 least 3 most 4 own -/
theorem p_are_wholes (ds : List D) (Q : D → Prop) (EX : Str → Prop) (h : S_are_wholes ds Q EX) : w_are_wholes EX { nx := fun _ => Q .non, rt := Q } (startD N_are_wholes ds) := by
  unfold S_are_wholes at h
  split at h
  · rename_i d m a b
    obtain ⟨hs, hq⟩ := h
    show w_are_wholes EX _ [.dat d, .dat (.int m), .dat (.int a), .dat (.int b), .un]
    unfold w_are_wholes
    l_fact
    rw [S_is_row_e]
    refine ⟨sh_pl hs, ?_⟩
    l_fact
    by_cases hr : isRow d m m = true
    · rw [if_pos hr]
      cases d with
      | tup xs =>
        l_fact
        refine lcD_bl (fun x => isWhole x a b) (fun x hx k hk => ?_) ⟨_, rfl, ?_⟩
        · l_fact
          rw [S_is_whole_e]
          exact ⟨sh_pl (hs x hx), hk⟩
        · have hr : (decide (m ≤ (xs.length : Int)) && decide ((xs.length : Int) ≤ m)) = true := hr
          simp at hr
          have e : areWholes (.tup xs) m a b = ((xs.map fun x => isWhole x a b).all id) := by
            show (decide ((xs.length : Int) = m) && xs.all fun x => isWhole x a b) = _
            rw [decide_eq_true (show (xs.length : Int) = m by omega), Bool.true_and, List.all_map]
            rfl
          rw [e] at hq
          exact hq
      | _ => exact absurd hr (by simp [isRow])
    · rw [if_neg hr]
      have e : areWholes d m a b = false := by
        rw [← Bool.not_eq_true]
        intro q
        obtain ⟨ns, rfl, h1, _⟩ := areWholes_eq q
        apply hr
        show (decide (m ≤ ((ns.map D.int).length : Int)) && decide (((ns.map D.int).length : Int) ≤ m)) = true
        rw [List.length_map]
        simp
        omega
      rw [e] at hq
      exact hq
  · exact h.elim

/- slots of is_table: 0 value 1 row -/
theorem p_is_table (ds : List D) (Q : D → Prop) (EX : Str → Prop) (h : S_is_table ds Q EX) : w_is_table EX { nx := fun _ => Q .non, rt := Q } (startD N_is_table ds) := by
  unfold S_is_table at h
  split at h
  · rename_i d
    obtain ⟨hs, yes, no⟩ := h
    show w_is_table EX _ [.dat d, .un]
    unfold w_is_table
    refine seq_to (fun S => ∃ (x : D) (xs ys : List D), d = .tup (x :: xs) ∧ x = .tup ys ∧ (1 ≤ (x :: xs).length ∧ (x :: xs).length ≤ 7) ∧ (1 ≤ ys.length ∧ ys.length ≤ 7) ∧ S = [.dat (.tup (x :: xs)), .un]) (fun K hK => ?_) ?_
    · l_fact
      rw [S_is_row_e]
      refine ⟨sh_pl hs, ?_⟩
      l_fact
      by_cases hr : isRow d 1 7 = true
      · rw [if_neg (by rw [hr]; decide)]
        cases d with
        | tup xs =>
          have hr : (decide ((1 : Int) ≤ (xs.length : Int)) && decide ((xs.length : Int) ≤ 7)) = true := hr
          simp at hr
          cases xs with
          | nil => simp at hr
          | cons x xs =>
            l_fact
            rw [atD0]
            l_fact
            rw [S_is_row_e]
            refine ⟨sh_pl (hs x List.mem_cons_self), ?_⟩
            l_fact
            by_cases hx : isRow x 1 7 = true
            · rw [if_neg (by rw [hx]; decide)]
              cases x with
              | tup ys =>
                have hx : (decide ((1 : Int) ≤ (ys.length : Int)) && decide ((ys.length : Int) ≤ 7)) = true := hx
                simp at hx
                simp at hr
                exact hK _ ⟨_, xs, ys, rfl, rfl, by simp; omega, by omega, rfl⟩
              | _ => exact absurd hx (by simp [isRow])
            · rw [if_pos (by simpa using hx)]
              refine no fun ⟨ts, e, ok⟩ => hx ?_
              unfold encT at e
              injection e with e
              cases ts with
              | nil => cases e
              | cons r ts =>
                injection e with e1 e2
                subst e1
                have := ok.wid
                show (decide ((1 : Int) ≤ ((r.map D.int).length : Int)) && decide (((r.map D.int).length : Int) ≤ 7)) = true
                rw [List.length_map]
                have e3 : wT (r :: ts) = r.length := rfl
                simp
                omega
        | _ => exact absurd hr (by simp [isRow])
      · rw [if_pos (by simpa using hr)]
        refine no fun ⟨ts, e, ok⟩ => hr ?_
        subst e
        have := ok.len
        show (decide ((1 : Int) ≤ ((ts.map fun r => D.tup (r.map D.int)).length : Int)) && decide (((ts.map fun r => D.tup (r.map D.int)).length : Int) ≤ 7)) = true
        rw [List.length_map]
        simp
        omega
    rintro _ ⟨x, xs, ys, rfl, rfl, hl, hy, rfl⟩
    have e0 : atD (D.tup ys :: xs) 0 = some (.tup ys) := atD0 _ _
    generalize hz : D.tup ys :: xs = zs at *
    l_fact
    refine lcD_bl (fun x => areWholes x (ys.length : Int) (-1) 999) (fun x hx k hk => ?_) ?_
    · l_fact
      rw [e0]
      l_fact
      rw [S_are_wholes_e]
      exact ⟨hs x hx, hk⟩
    · l_fact
      refine ⟨_, rfl, ?_⟩
      rw [List.all_map]
      by_cases ha : zs.all (fun x => areWholes x (ys.length : Int) (-1) 999) = true
      · obtain ⟨cs, e, hc⟩ := rows_of fun x hx => List.all_eq_true.mp ha x hx
        have : (zs.all (id ∘ fun x => areWholes x (ys.length : Int) (-1) 999)) = true := ha
        rw [this]
        rw [← hz] at e
        cases cs with
        | nil => cases e
        | cons r cs =>
          have e2' := e
          rw [List.map_cons] at e
          injection e with e1 e2
          injection e1 with e1
          have e3 : wT (r :: cs) = ys.length := by rw [e1, List.length_map]; rfl
          have el := congrArg List.length e2'
          rw [List.length_map] at el
          refine yes ⟨r :: cs, by rw [← hz, e2']; rfl, by rw [← hz] at hl; omega, by omega, fun r' hr' => ?_⟩
          obtain ⟨h1, h2⟩ := hc r' hr'
          exact ⟨by omega, h2⟩
      · have : (zs.all (id ∘ fun x => areWholes x (ys.length : Int) (-1) 999)) = false := by simpa using ha
        rw [this]
        refine no fun ⟨ts, e, ok⟩ => ha ?_
        unfold encT at e
        injection e with e
        have e3 : ys.length = wT ts := by
          rw [← hz] at e
          cases ts with
          | nil => cases e
          | cons r ts =>
            injection e with e1 e2
            injection e1 with e1
            rw [e1, List.length_map]
            rfl
        rw [List.all_eq_true]
        intro x hx
        rw [e] at hx
        obtain ⟨r, hr', rfl⟩ := List.mem_map.mp hx
        obtain ⟨h1, h2⟩ := ok.row r hr'
        exact areWholes_of (by omega) h2
  · exact h.elim

/- slots of sums_of: 0 table 1 orders 2 found 3 row 4 last 5 here 6 own 7 some 8 order 9 worth -/
theorem p_sums_of (ds : List D) (Q : D → Prop) (EX : Str → Prop) (h : S_sums_of ds Q EX) : w_sums_of EX { nx := fun _ => Q .non, rt := Q } (startD N_sums_of ds) := by
  unfold S_sums_of at h
  split at h
  · rename_i d o
    obtain ⟨ts, om, rfl, hm, rfl, hq⟩ := h
    show w_sums_of EX _ [.dat (encT ts), .dat (.int om), .un, .un, .un, .un, .un, .un, .un, .un]
    have hl := hm.len
    have hw := hm.wid
    have z0 : (0 : Int) ≤ ((2 ^ wT ts : Nat) : Int) := Int.natCast_nonneg _
    have p256 : 2 ^ wT ts ≤ 2 ^ 8 := Nat.pow_le_pow_right (by decide) (by omega)
    unfold w_sums_of
    refine seq_to (fun S => S = [.dat (encT ts), .dat (.int om), .own ([[((0 : Int), D.int 0)]].map D.dI), .un, .un, .un, .un, .un, .un, .un]) (fun K hK => ?_) ?_
    · l_fact
      exact ⟨by decide, hK _ rfl⟩
    rintro _ rfl
    refine seq_to (fun S => ∃ (kl : List (List (Int × D))) (x3 x4 x5 x6 x7 x8 x9 : SV), S = [.dat (encT ts), .dat (.int om), .own (kl.map D.dI), x3, x4, x5, x6, x7, x8, x9] ∧ kl.length = ts.length + 1 ∧ ∀ i, i ≤ ts.length → TabG (ts.drop (ts.length - i)) om (kl.getD i [])) (fun K hK => ?_) ?_
    · unfold encT
      l_fact
      rw [stepD_rev, ← List.map_reverse]
      refine ⟨by first | trivial | exact .inl rfl, ?_⟩
      refine forD_ind (fun i S => ∃ (kl : List (List (Int × D))) (x3 x4 x5 x6 x7 x8 x9 : SV), S = [.dat (.tup (ts.map fun r => D.tup (r.map D.int))), .dat (.int om), .own (kl.map D.dI), x3, x4, x5, x6, x7, x8, x9] ∧ kl.length = i + 1 ∧ ∀ q, q ≤ i → TabG (ts.drop (ts.length - q)) om (kl.getD q [])) ⟨[[((0 : Int), D.int 0)]], _, _, _, _, _, _, _, rfl, rfl, fun q hq => ?_⟩ (fun i x S K2 hx hI hK2 => ?_) (fun S hI => ?_)
      · have : q = 0 := by omega
        subst this
        rw [Nat.sub_zero, List.drop_length]
        exact tabG_nil om
      · obtain ⟨kl, x3, x4, x5, x6, x7, x8, x9, rfl, kll, hk⟩ := hI
        obtain ⟨row, hr, rfl⟩ := map_at hx
        have il := (List.getElem?_eq_some_iff.mp hr).1
        rw [List.length_reverse] at il
        rw [List.getElem?_reverse il] at hr
        have hrow := List.mem_of_getElem? hr
        obtain ⟨rl, rb⟩ := hm.row row hrow
        have dr : ts.drop (ts.length - (i + 1)) = row :: ts.drop (ts.length - i) := by
          rw [drop_at (show ts[ts.length - (i + 1)]? = some row by rw [show ts.length - (i + 1) = ts.length - 1 - i by omega]; exact hr)]
          rw [show ts.length - (i + 1) + 1 = ts.length - i by omega]
        have rlen : ∀ r ∈ row :: ts.drop (ts.length - i), r.length ≤ wT ts := fun r hr => by
          rcases List.mem_cons.mp hr with rfl | hr
          · omega
          · have := (hm.row r (List.mem_of_mem_drop hr)).1
            omega
        have T := hk i (Nat.le_refl _)
        have kle : kl.map D.dI = (kl.take i).map D.dI ++ [D.dI (kl.getD i [])] := by
          have := take_at (at_getD ([] : List (Int × D)) (show i < kl.length by omega))
          rw [← List.map_singleton (f := D.dI), ← List.map_append, ← this, List.take_of_length_le (by omega)]
        simp only [y_bName, x_set0, x_setS]
        generalize kl.getD i [] = last at *
        refine seq_to (fun S => S = [.dat (.tup (ts.map fun r => D.tup (r.map D.int))), .dat (.int om), .own (kl.map D.dI), .dat (.tup (row.map D.int)), .dat (.dI last), .ownI [], x6, x7, x8, x9]) (fun K hK => ?_) ?_
        · l_fact
          have e : atD (kl.map D.dI) (-1) = some (D.dI last) := by rw [kle]; exact L2.atI_last _ _
          rw [e]
          l_fact
          first | exact hK _ rfl | exact ⟨rfl, hK _ rfl⟩
        rintro _ rfl
        refine seq_to (fun S => ∃ here x6 x7 x8 x9, S = [.dat (.tup (ts.map fun r => D.tup (r.map D.int))), .dat (.int om), .own (kl.map D.dI), .dat (.tup (row.map D.int)), .dat (.dI last), .ownI here, x6, x7, x8, x9] ∧ TabN (row :: ts.drop (ts.length - i)) om (2 ^ wT ts) here) (fun K hK => ?_) ?_
        · l_fact
          rw [row0 hm]
          l_fact
          rw [List.length_map, one_shl', show (ts.getD 0 []).length = wT ts from rfl]
          refine ⟨⟨by omega, by omega, by decide, by decide⟩, ⟨by decide, by decide, by omega, by omega⟩, ?_⟩
          rw [rngD_eq, Int.toNat_natCast]
          simp only [List.map_map]
          refine forD_ind (fun N S => ∃ here x6 x7 x8 x9, S = [.dat (.tup (ts.map fun r => D.tup (r.map D.int))), .dat (.int om), .own (kl.map D.dI), .dat (.tup (row.map D.int)), .dat (.dI last), .ownI here, x6, x7, x8, x9] ∧ TabN (row :: ts.drop (ts.length - i)) om N here) ⟨[], _, _, _, _, rfl, tabN_0 _ _⟩ (fun N x S K3 hx hI hK3 => ?_) (fun S hI => ?_)
          · obtain ⟨here, x6, x7, x8, x9, rfl, TN⟩ := hI
            obtain ⟨j, hj, rfl⟩ := map_at hx
            obtain ⟨Nl, e⟩ := List.getElem?_eq_some_iff.mp hj
            rw [List.getElem_range] at e
            subst e
            rw [List.length_range] at Nl
            show bName 6 (.int (0 + (N : Int))) _ _
            rw [Int.zero_add]
            simp only [y_bName, x_set0, x_setS]
            refine sIf_to (fun b S => b = decide (N &&& om = N) ∧ S = [.dat (.tup (ts.map fun r => D.tup (r.map D.int))), .dat (.int om), .own (kl.map D.dI), .dat (.tup (row.map D.int)), .dat (.dI last), .ownI here, .dat (.int N), x7, x8, x9]) (fun R hR => ?_) ?_ ?_
            · l_fact
              rw [bAnd, eqD_int]
              refine ⟨⟨by simp, by simp⟩, hR _ _ ⟨?_, rfl⟩⟩
              exact decide_eq_decide.mpr (by omega)
            · rintro _ ⟨eN, rfl⟩
              have eN := of_decide_eq_true eN.symm
              have sub := and_sub.mp eN
              have C0 := cand_0 (row := row) (own := N) T
              refine seq_to (fun S => ∃ cs x8 x9, S = [.dat (.tup (ts.map fun r => D.tup (r.map D.int))), .dat (.int om), .own (kl.map D.dI), .dat (.tup (row.map D.int)), .dat (.dI last), .ownI here, .dat (.int N), .own (cs.map D.int), x8, x9] ∧ Cand row (ts.drop (ts.length - i)) om N 0 cs ∧ cs.length ≤ 1) (fun K hK => ?_) ?_
              · l_fact
                cases hL : lookI last (N : Int) with
                | none =>
                  rw [hL] at C0
                  rw [if_neg (by simp)]
                  exact ⟨by decide, hK _ ⟨[], _, _, rfl, C0, by decide⟩⟩
                | some d =>
                  obtain ⟨t, rfl, _⟩ := T.val hL
                  rw [hL] at C0
                  rw [if_pos (by simp)]
                  l_fact
                  exact ⟨by first | decide | simp, hK _ ⟨[t], _, _, rfl, C0, by simp⟩⟩
              rintro _ ⟨cs, x8, x9, rfl, C, cl⟩
              refine seq_to (fun S => ∃ cs x8 x9, S = [.dat (.tup (ts.map fun r => D.tup (r.map D.int))), .dat (.int om), .own (kl.map D.dI), .dat (.tup (row.map D.int)), .dat (.dI last), .ownI here, .dat (.int N), .own (cs.map D.int), x8, x9] ∧ Cand row (ts.drop (ts.length - i)) om N row.length cs) (fun K hK => ?_) ?_
              · l_fact
                rw [enumI]
                refine forD_ind (fun b S => ∃ cs x8 x9, S = [.dat (.tup (ts.map fun r => D.tup (r.map D.int))), .dat (.int om), .own (kl.map D.dI), .dat (.tup (row.map D.int)), .dat (.dI last), .ownI here, .dat (.int N), .own (cs.map D.int), x8, x9] ∧ Cand row (ts.drop (ts.length - i)) om N b cs ∧ cs.length ≤ b + 1) ⟨cs, _, _, rfl, C, cl⟩ (fun b x S K4 hx hI hK4 => ?_) (fun S hI => ?_)
                · obtain ⟨cs, x8, x9, rfl, C, cl⟩ := hI
                  obtain ⟨j, hj, rfl⟩ := map_at hx
                  obtain ⟨bl, e⟩ := List.getElem?_eq_some_iff.mp hj
                  rw [List.getElem_range] at e
                  subst e
                  rw [List.length_range] at bl
                  obtain ⟨st1, st2⟩ := cand_step T C sub bl
                  rw [bT2]
                  l_fact
                  rw [Int.toNat_natCast, bit_at]
                  refine ⟨by omega, ⟨by simp, by simp⟩, ?_⟩
                  rw [eqD_int]
                  by_cases tb : N.testBit b = true
                  · rw [if_pos tb, if_pos (by decide)]
                    by_cases r0 : 0 ≤ row.getD b 0
                    · rw [if_pos (by simpa using r0), one_shl, bXor]
                      refine ⟨⟨by omega, by omega, by decide, by decide⟩, ?_⟩
                      cases hL : lookI last ((N ^^^ 2 ^ b : Nat) : Int) with
                      | none =>
                        rw [if_neg (by simp)]
                        exact hK4 _ ⟨cs, _, _, rfl, st2 fun _ _ => hL, by omega⟩
                      | some d =>
                        obtain ⟨t, rfl, _⟩ := T.val hL
                        rw [if_pos (by simp)]
                        l_fact
                        refine ⟨⟨by omega, by omega, by decide, by decide⟩, by rw [List.length_map]; omega, hK4 _ ⟨cs ++ [row.getD b 0 + t], .dat (.int (b : Nat)), .dat (.int (row.getD b 0)), ?_, st1 t tb r0 hL, by rw [List.length_append, List.length_singleton]; omega⟩⟩
                        rw [List.map_append]
                        rfl
                    · rw [if_neg (by simpa using r0)]
                      exact hK4 _ ⟨cs, _, _, rfl, st2 fun _ z => (r0 z).elim, by omega⟩
                  · rw [if_neg tb, if_neg (by decide)]
                    exact hK4 _ ⟨cs, _, _, rfl, st2 fun z => (tb z).elim, by omega⟩
                · obtain ⟨cs, x8, x9, rfl, C, _⟩ := hI
                  rw [List.length_map, List.length_range] at C
                  exact hK _ ⟨cs, x8, x9, rfl, C⟩
              rintro _ ⟨cs, x8, x9, rfl, C⟩
              l_fact
              cases cs with
              | nil =>
                rw [if_neg (by simp)]
                exact hK3 _ ⟨here, _, _, _, _, rfl, TN.skip (cand_nil C)⟩
              | cons c0 cs =>
                rw [if_pos (by simp)]
                refine ⟨c0 :: cs, rfl, by simp, fun m m1 m2 => ?_⟩
                l_fact
                exact ⟨by have := TN.len; omega, hK3 _ ⟨_, _, _, _, _, rfl, TN.put C m1 m2⟩⟩
            · rintro _ ⟨eN, rfl⟩
              have eN := of_decide_eq_false eN.symm
              refine hK3 _ ⟨here, _, _, _, _, rfl, TN.skip fun g g1 g2 e => eN (and_sub.mpr fun j hj => g2 j ?_)⟩
              rw [← e, msk_bit] at hj
              exact of_decide_eq_true hj
          · obtain ⟨here, x6, x7, x8, x9, rfl, TN⟩ := hI
            rw [List.length_map, List.length_range] at TN
            exact hK _ ⟨here, x6, x7, x8, x9, rfl, TN⟩
        rintro _ ⟨here, x6, x7, x8, x9, rfl, TN⟩
        l_fact
        rw [List.length_map]
        refine ⟨by omega, hK2 _ ⟨kl ++ [here], _, _, _, _, _, _, _, by rw [List.map_append]; rfl, by rw [List.length_append, kll]; rfl, fun q hq => ?_⟩⟩
        by_cases e : q = i + 1
        · subst e
          rw [dr, getD_at (by rw [← kll]; exact at_last kl here)]
          exact TN.all rlen
        · have := hk q (by omega)
          have e2 : (kl ++ [here]).getD q [] = kl.getD q [] := getD_at (at_left (at_getD [] (by omega)))
          rw [e2]
          exact this
      · obtain ⟨kl, x3, x4, x5, x6, x7, x8, x9, rfl, kll, hk⟩ := hI
        rw [List.length_map, List.length_reverse] at kll hk
        exact hK _ ⟨kl, x3, x4, x5, x6, x7, x8, x9, rfl, kll, hk⟩
    rintro _ ⟨kl, x3, x4, x5, x6, x7, x8, x9, rfl, kll, hk⟩
    l_fact
    rw [stepD_rev, ← List.map_reverse]
    refine ⟨by first | trivial | exact .inl rfl, hq kl.reverse (by rw [List.length_reverse]; exact kll) fun i hi => ?_⟩
    have e : kl.reverse.getD i [] = kl.getD (ts.length - i) [] := getD_at (by rw [List.getElem?_reverse (by omega), show kl.length - 1 - i = ts.length - i by omega]; exact at_getD [] (by omega))
    rw [e]
    have := hk (ts.length - i) (by omega)
    rwa [show ts.length - (ts.length - i) = i by omega] at this
  · exact h.elim

/- slots of all_orders: 0 table -/
theorem p_all_orders (ds : List D) (Q : D → Prop) (EX : Str → Prop) (h : S_all_orders ds Q EX) : w_all_orders EX { nx := fun _ => Q .non, rt := Q } (startD N_all_orders ds) := by
  unfold S_all_orders at h
  split at h
  · rename_i d
    obtain ⟨ts, rfl, hm, hq⟩ := h
    show w_all_orders EX _ [.dat (encT ts)]
    have hw := hm.wid
    have p := Nat.two_pow_pos (wT ts)
    unfold w_all_orders encT
    l_fact
    rw [row0 hm]
    l_fact
    rw [List.length_map, one_shl', show ((2 ^ (ts.getD 0 []).length : Nat) : Int) - 1 = ((2 ^ wT ts - 1 : Nat) : Int) by unfold wT; rw [Int.natCast_sub (show 1 ≤ 2 ^ (ts.getD 0 []).length from p)]; rfl]
    refine ⟨⟨by omega, ?_, by decide, by decide⟩, hq⟩
    unfold wT at hw
    omega
  · exact h.elim

/- slots of most_of: 0 table 1 orders 2 some 3 own -/
theorem p_most_of (ds : List D) (Q : D → Prop) (EX : Str → Prop) (h : S_most_of ds Q EX) : w_most_of EX { nx := fun _ => Q .non, rt := Q } (startD N_most_of ds) := by
  unfold S_most_of at h
  split at h
  · rename_i d o
    obtain ⟨ts, om, rfl, hm, rfl, hq⟩ := h
    show w_most_of EX _ [.dat (encT ts), .dat (.int om), .un, .un]
    have p256 : 2 ^ wT ts ≤ 2 ^ 8 := Nat.pow_le_pow_right (by decide) (by have := hm.wid; omega)
    unfold w_most_of
    refine seq_to (fun S => ∃ kvs, TabG ts om kvs ∧ S = [.dat (encT ts), .dat (.int om), .dat (.dI kvs), .un]) (fun K hK => ?_) ?_
    · l_fact
      refine ⟨ts, om, rfl, hm, rfl, fun kl kll hk => ?_⟩
      l_fact
      have e : atD (kl.map D.dI) 0 = some (.dI (kl.getD 0 [])) := atD_nat (j := 0) (by rw [List.getElem?_map, at_getD [] (by omega)]; rfl)
      rw [e]
      exact hK _ ⟨_, by have := hk 0 (by omega); rwa [List.drop_zero] at this, rfl⟩
    rintro _ ⟨kvs, T, rfl⟩
    l_fact
    refine ⟨by have := T.len hm.le; omega, ?_⟩
    refine lcD_map _ (fun p : Int × D => some (.int (vat kvs p.1))) (fun p hp k hk => ?_) ?_
    · l_fact
      rw [T.vat (List.mem_map.mpr ⟨p, hp, rfl⟩)]
      exact hk
    · rw [List.filterMap_eq_map']
      refine ⟨(kvs.map (·.1)).map (vat kvs), by rw [List.map_map, List.map_map]; rfl, fun z => ?_, fun m m1 m2 => hq m (T.most m1 m2)⟩
      rw [List.map_eq_nil_iff, List.map_eq_nil_iff] at z
      exact T.ne z
  · exact h.elim

/- slots of prices: 0 table 1 whole 2 best 3 orders 4 logs 5 order 6 row 7 own 8 price -/
theorem p_prices (ds : List D) (Q : D → Prop) (EX : Str → Prop) (h : S_prices ds Q EX) : w_prices EX { nx := fun _ => Q .non, rt := Q } (startD N_prices ds) := by
  unfold S_prices at h
  split at h
  · rename_i d
    obtain ⟨hs, e1, hq⟩ := h
    show w_prices EX _ [.dat d, .un, .un, .un, .un, .un, .un, .un, .un]
    unfold w_prices
    refine seq_to (fun S => ∃ ts, d = encT ts ∧ OkT ts ∧ S = [.dat (encT ts), .un, .un, .un, .un, .un, .un, .un, .un]) (fun K hK => ?_) ?_
    · l_fact
      rw [S_is_table_e]
      refine ⟨hs, fun w => ?_, fun w => ?_⟩
      · rw [S_require_e]
        refine ⟨fun _ => ?_, fun z => by cases z⟩
        obtain ⟨ts, rfl, hm⟩ := w
        exact hK _ ⟨ts, rfl, hm, rfl⟩
      · rw [S_require_e]
        exact ⟨fun z => (by cases z), fun _ => e1 w⟩
    rintro _ ⟨ts, rfl, hm, rfl⟩
    have hq := hq ts rfl hm
    have hl := hm.len
    have hw := hm.wid
    have p256 : 2 ^ wT ts ≤ 2 ^ 8 := Nat.pow_le_pow_right (by decide) (by omega)
    refine seq_to (fun S => S = [.dat (encT ts), .dat (.int ((2 ^ wT ts - 1 : Nat) : Int)), .un, .un, .un, .un, .un, .un, .un]) (fun K hK => ?_) ?_
    · l_fact
      exact ⟨ts, rfl, hm, hK _ rfl⟩
    rintro _ rfl
    refine seq_to (fun S => ∃ b, S = [.dat (encT ts), .dat (.int ((2 ^ wT ts - 1 : Nat) : Int)), .dat (.int b), .un, .un, .un, .un, .un, .un] ∧ IsMost ts (2 ^ wT ts - 1) b) (fun K hK => ?_) ?_
    · l_fact
      exact ⟨ts, _, rfl, hm, rfl, fun b M => hK _ ⟨b, rfl, M⟩⟩
    rintro _ ⟨b, rfl, M⟩
    refine seq_to (fun S => ∃ us : List Int, S = [.dat (encT ts), .dat (.int ((2 ^ wT ts - 1 : Nat) : Int)), .dat (.int b), .dat (.lst (us.map D.int)), .un, .un, .un, .un, .un] ∧ us.length = wT ts ∧ ∀ j, j < wT ts → IsMost ts ((2 ^ wT ts - 1) ^^^ 2 ^ j) (b - us.getD j 0)) (fun K hK => ?_) ?_
    · have et : D.tup (ts.map fun r => D.tup (r.map D.int)) = encT ts := rfl
      unfold encT at hK ⊢
      l_fact
      rw [row0 hm]
      l_fact
      rw [List.length_map, show (ts.getD 0 []).length = wT ts from rfl]
      refine ⟨⟨by decide, by decide, by omega, by omega⟩, ?_⟩
      rw [rngD_rg, Int.toNat_natCast]
      refine lcD_rel D.int D.int (fun y z => IsMost ts ((2 ^ wT ts - 1) ^^^ 2 ^ y.toNat) (b - z)) (fun y hy k hk => ?_) (fun zs hz => ?_)
      · have hy := mem_rg.mp hy
        obtain ⟨j, rfl⟩ : ∃ j : Nat, y = (j : Int) := ⟨y.toNat, by omega⟩
        l_fact
        rw [one_shl', bXor]
        refine ⟨⟨by omega, by omega, by decide, by decide⟩, ?_⟩
        refine ⟨ts, _, rfl, hm, rfl, fun t Mt => ?_⟩
        l_fact
        refine hk (b - t) ?_
        rw [Int.toNat_natCast, show b - (b - t) = t by omega]
        exact Mt
      · obtain ⟨z1, z2⟩ := (fa2_idx (0 : Int) (0 : Int)).mp hz
        rw [rg_len] at z1 z2
        refine hK _ ⟨zs, rfl, z1.symm, fun j hj => ?_⟩
        have := z2 j hj
        rw [rg_at hj, Int.toNat_natCast] at this
        exact this
    rintro _ ⟨us, rfl, ul, hu⟩
    refine seq_to (fun S => ∃ ls : List Int, S = [.dat (encT ts), .dat (.int ((2 ^ wT ts - 1 : Nat) : Int)), .dat (.int b), .dat (.lst (us.map D.int)), .dat (.lst (ls.map D.int)), .un, .un, .un, .un] ∧ ls.length = ts.length ∧ ∀ i, i < ts.length → MaxOf (ts.getD i []) us (ls.getD i 0)) (fun K hK => ?_) ?_
    · unfold encT at hK ⊢
      l_fact
      refine lcD_rel (fun r : List Int => D.tup (r.map D.int)) D.int (fun r z => MaxOf r us z) (fun r hr k hk => ?_) (fun zs hz => ?_)
      · have rl := (hm.row r hr).1
        l_fact
        rw [zipD_map]
        have fl : ((r.zip us).filter fun p => decide (0 ≤ p.1)).length ≤ 7 := by
          have h1 := List.length_filter_le (fun p : Int × Int => decide (0 ≤ p.1)) (r.zip us)
          rw [List.length_zip] at h1
          omega
        refine ⟨by decide, ?_⟩
        refine lcD_sel _ (fun p : Int × Int => decide (0 ≤ p.1)) (fun p => D.int (p.1 - p.2)) (fun p hp k hk => ?_) ?_
        · rw [y_lcStep, bT2]
          l_fact
          by_cases q : 0 ≤ p.1
          · rw [if_pos (decide_eq_true q)] at hk
            rw [if_pos q]
            exact hk
          · rw [if_neg (by simpa using q)] at hk
            rw [if_neg q]
            exact hk
        · l_fact
          rw [List.length_map]
          refine ⟨by omega, 0 :: (((r.zip us).filter fun p => decide (0 ≤ p.1)).map fun p => p.1 - p.2), by rw [List.map_cons, List.map_map]; rfl, by simp, fun m m1 m2 => hk m ⟨?_, fun p hp h0 => ?_, ?_⟩⟩
          · exact m2 0 List.mem_cons_self
          · exact m2 _ (List.mem_cons_of_mem _ (List.mem_map.mpr ⟨p, List.mem_filter.mpr ⟨hp, decide_eq_true h0⟩, rfl⟩))
          · rcases List.mem_cons.mp m1 with e | e
            · exact .inl e
            · obtain ⟨p, hp, rfl⟩ := List.mem_map.mp e
              obtain ⟨p1, p2⟩ := List.mem_filter.mp hp
              exact .inr ⟨p, p1, of_decide_eq_true p2, rfl⟩
      · obtain ⟨z1, z2⟩ := (fa2_idx ([] : List Int) (0 : Int)).mp hz
        exact hK _ ⟨zs, rfl, z1.symm, z2⟩
    rintro _ ⟨ls, rfl, ll, hl2⟩
    l_fact
    repeat refine And.intro (by decide) ?_
    exact hq b ls us ⟨M, ul, ll, hu, hl2⟩
  · exact h.elim

/- slots of is_prices: 0 table 1 value 2 row 3 log 4 own 5 order -/
theorem p_is_prices (ds : List D) (Q : D → Prop) (EX : Str → Prop) (h : S_is_prices ds Q EX) : w_is_prices EX { nx := fun _ => Q .non, rt := Q } (startD N_is_prices ds) := by
  unfold S_is_prices at h
  split at h
  · rename_i d v
    obtain ⟨hs, hv, e1, hq⟩ := h
    show w_is_prices EX _ [.dat d, .dat v, .un, .un, .un, .un]
    unfold w_is_prices
    refine seq_to (fun S => ∃ ts, d = encT ts ∧ OkT ts ∧ S = [.dat (encT ts), .dat v, .un, .un, .un, .un]) (fun K hK => ?_) ?_
    · l_fact
      rw [S_is_table_e]
      refine ⟨hs, fun w => ?_, fun w => ?_⟩
      · rw [S_require_e]
        refine ⟨fun _ => ?_, fun z => by cases z⟩
        obtain ⟨ts, rfl, hm⟩ := w
        exact hK _ ⟨ts, rfl, hm, rfl⟩
      · rw [S_require_e]
        exact ⟨fun z => (by cases z), fun _ => e1 w⟩
    rintro _ ⟨ts, rfl, hm, rfl⟩
    obtain ⟨no, yes⟩ := hq ts rfl hm
    have hl := hm.len
    have hw := hm.wid
    refine seq_to (fun S => ∃ (ls : List Int) (y : D), v = .tup [.tup (ls.map D.int), y] ∧ ls.length = ts.length ∧ (∀ z ∈ ls, 0 ≤ z ∧ z ≤ 999) ∧ S = [.dat (encT ts), .dat (.tup [.tup (ls.map D.int), y]), .un, .un, .un, .un]) (fun K hK => ?_) ?_
    · l_fact
      rw [S_is_row_e]
      refine ⟨sh_pl hv, ?_⟩
      l_fact
      by_cases hr : isRow v 2 2 = true
      · rw [if_neg (by rw [hr]; decide)]
        obtain ⟨x, y, rfl⟩ : ∃ x y, v = .tup [x, y] := by
          cases v with
          | tup xs =>
            have hr : (decide ((2 : Int) ≤ (xs.length : Int)) && decide ((xs.length : Int) ≤ 2)) = true := hr
            simp at hr
            match xs, hr with
            | [x, y], _ => exact ⟨x, y, rfl⟩
            | [], hr => simp at hr
            | [_], hr => simp at hr
            | _ :: _ :: _ :: _, hr => simp at hr; omega
          | _ => exact absurd hr (by simp [isRow])
        have hx : Sh 4 x := (show ∀ z ∈ [x, y], Sh 4 z from hv) x List.mem_cons_self
        unfold encT at hK ⊢
        l_fact
        rw [atD0]
        l_fact
        rw [List.length_map, S_are_wholes_e]
        refine ⟨hx, ?_⟩
        l_fact
        by_cases ha : areWholes x ts.length 0 999 = true
        · rw [if_neg (by rw [ha]; decide)]
          obtain ⟨ls, rfl, h1, h2⟩ := areWholes_eq ha
          exact hK _ ⟨ls, y, rfl, by omega, h2, rfl⟩
        · rw [if_pos (by simpa using ha)]
          refine no fun ⟨ls, us, w⟩ => ha ?_
          have e := w.eq
          injection e with e
          injection e with e _
          rw [e]
          have := w.ll
          exact areWholes_of (by omega) fun z hz => w.fine.1 z (List.mem_append_left _ hz)
      · rw [if_pos (by simpa using hr)]
        refine no fun ⟨ls, us, w⟩ => hr ?_
        rw [w.eq]
        rfl
    rintro _ ⟨ls, y, rfl, ll, lb, rfl⟩
    refine seq_to (fun S => ∃ us : List Int, y = .tup (us.map D.int) ∧ us.length = wT ts ∧ (∀ z ∈ us, 0 ≤ z ∧ z ≤ 999) ∧ S = [.dat (encT ts), .dat (.tup [.tup (ls.map D.int), .tup (us.map D.int)]), .un, .un, .un, .un]) (fun K hK => ?_) ?_
    · have hy : Sh 4 y := (show ∀ z ∈ [D.tup (ls.map D.int), y], Sh 4 z from hv) y (by simp)
      unfold encT at hK ⊢
      l_fact
      rw [atD1, row0 hm]
      l_fact
      rw [List.length_map, S_are_wholes_e, show (ts.getD 0 []).length = wT ts from rfl]
      refine ⟨hy, ?_⟩
      l_fact
      by_cases ha : areWholes y (wT ts) 0 999 = true
      · rw [if_neg (by rw [ha]; decide)]
        obtain ⟨us, rfl, h1, h2⟩ := areWholes_eq ha
        exact hK _ ⟨us, rfl, by omega, h2, rfl⟩
      · rw [if_pos (by simpa using ha)]
        refine no fun ⟨ls', us, w⟩ => ha ?_
        have e := w.eq
        injection e with e
        injection e with _ e
        injection e with e _
        rw [e]
        have := w.ul
        exact areWholes_of (by omega) fun z hz => w.fine.1 z (List.mem_append_right _ hz)
    rintro _ ⟨us, rfl, ul, ub, rfl⟩
    have bnd : ∀ z ∈ ls ++ us, 0 ≤ z ∧ z ≤ 999 := fun z hz => (List.mem_append.mp hz).elim (lb z) (ub z)
    have fr := fine_rows hm (ls := ls) ul
    refine seq_to (fun S => Fine ts ls us) (fun K hK => ?_) ?_
    · unfold encT
      l_fact
      rw [atD0]
      l_fact
      rw [zipD_map]
      first | refine And.intro (by rfl) ?_ | skip
      refine forD_ind (fun i S => ∃ x2 x3 x4 x5, S = [.dat (.tup (ts.map fun r => D.tup (r.map D.int))), .dat (.tup [.tup (ls.map D.int), .tup (us.map D.int)]), x2, x3, x4, x5] ∧ (x4.shared = true ∧ x5.shared = true) ∧ ∀ i', i' < i → ∀ p ∈ (ts.getD i' []).zip us, p.1 ≤ ls.getD i' 0 + p.2) ⟨_, _, _, _, rfl, ⟨rfl, rfl⟩, fun i' h => by omega⟩ (fun i x S K2 hx hI hK2 => ?_) (fun S hI => ?_)
      · obtain ⟨x2, x3, x4, x5, rfl, ⟨s4, s5⟩, hI⟩ := hI
        obtain ⟨p, hp, rfl⟩ := map_at hx
        obtain ⟨hp1, hp2⟩ := List.getElem?_zip_eq_some.mp hp
        obtain ⟨r, l⟩ := p
        have il := (List.getElem?_eq_some_iff.mp hp1).1
        have er := getD_at (d := []) hp1
        have el := getD_at (d := (0 : Int)) hp2
        rw [bT2]
        simp only [x_set0, x_setS]
        l_fact
        rw [atD1]
        l_fact
        rw [zipD_map]
        first | refine And.intro (by rw [s4, s5]; rfl) ?_ | skip
        refine lcD_map _ (fun p : Int × Int => some (.bl (decide (l + p.2 < p.1)))) (fun p hp k hk => ?_) ?_
        · rw [y_lcStep, bT2]
          l_fact
          exact hk
        · rw [List.filterMap_eq_map']
          refine ⟨(r.zip us).map fun p => decide (l + p.2 < p.1), by rw [List.map_map]; rfl, ?_⟩
          l_fact
          rw [List.any_map]
          by_cases q : ∀ p ∈ r.zip us, p.1 ≤ l + p.2
          · rw [if_neg]
            · refine hK2 _ ⟨_, _, _, _, rfl, ⟨s4, s5⟩, fun i' hi' => ?_⟩
              by_cases e : i' = i
              · subst e
                rw [show ts.getD i' [] = r from er, show ls.getD i' 0 = l from el]
                exact q
              · exact hI i' (by omega)
            · intro z
              obtain ⟨p, h1, h2⟩ := List.any_eq_true.mp z
              have := q p h1
              have h2 : decide (l + p.2 < p.1) = true := h2
              have := of_decide_eq_true h2
              omega
          · rw [if_pos]
            · refine no fun ⟨ls', us', w⟩ => q ?_
              obtain ⟨rfl, rfl⟩ := ip_inj w.eq
              have := fr.mp w.fine.2 i il
              rw [show ts.getD i [] = r from er, show ls.getD i 0 = l from el] at this
              exact this
            · refine Classical.byContradiction fun z => q fun p h1 => ?_
              have z := Bool.eq_false_iff.mpr z
              rw [List.any_eq_false] at z
              have := z p h1
              have this : ¬ decide (l + p.2 < p.1) = true := this
              rw [decide_eq_true_eq] at this
              omega
      · obtain ⟨x2, x3, x4, x5, rfl, _, hI⟩ := hI
        rw [List.length_map, List.length_zip, ll, Nat.min_self] at hI
        exact hK _ ⟨bnd, fr.mpr hI⟩
    intro S hF
    l_fact
    exact yes ls us ⟨rfl, ll, ul, hF⟩
  · exact h.elim

/- slots of _law_pick: 0 row 1 some -/
theorem pick_at {xs : List D} {v : Int} (h0 : 0 ≤ v) (h1 : v < (xs.length : Int)) : ∃ x, x ∈ xs ∧ atD xs v = some x := by
  have hl : v.toNat < xs.length := by omega
  refine ⟨xs[v.toNat], List.getElem_mem hl, ?_⟩
  have e := atD_nat (List.getElem?_eq_getElem hl)
  rwa [show ((v.toNat : Nat) : Int) = v by omega] at e
theorem p__law_pick (ds : List D) (Q : D → Prop) (EX : Str → Prop) (h : S__law_pick ds Q EX) : w__law_pick EX { nx := fun _ => Q .non, rt := Q } (startD N__law_pick ds) := by
  unfold S__law_pick at h
  split at h
  · rename_i xs
    obtain ⟨h1, h2, h3⟩ := h
    have hl : 0 < xs.length := List.length_pos_iff.mpr h1
    show w__law_pick EX _ [.dat .row, .dat (.lst xs)]
    unfold w__law_pick
    l_fact
    refine ⟨(xs.length : Int), rfl, by omega, by omega, fun v v0 v1 => ?_⟩
    obtain ⟨x, hx, e⟩ := pick_at v0 v1
    l_fact
    rw [e]
    exact h3 x hx
  · rename_i xs
    obtain ⟨h1, h2, h3⟩ := h
    have hl : 0 < xs.length := List.length_pos_iff.mpr h1
    show w__law_pick EX _ [.dat .row, .dat (.tup xs)]
    unfold w__law_pick
    l_fact
    refine ⟨(xs.length : Int), rfl, by omega, by omega, fun v v0 v1 => ?_⟩
    obtain ⟨x, hx, e⟩ := pick_at v0 v1
    l_fact
    rw [e]
    exact h3 x hx
  · exact h.elim

/- slots of _law_alike: 0 found 1 due 2 at -/
theorem p__law_alike (n : Nat) (ds : List D) (Q : D → Prop) (EX : Str → Prop) (h : S__law_alike (n + 1) ds Q EX) : w__law_alike (S__law_alike n) EX { nx := fun _ => Q .non, rt := Q } (startD N__law_alike ds) := by
  replace h : alSp n ds Q EX := h
  unfold alSp at h
  split at h
  · rename_i d e
    obtain ⟨he, ha, hq⟩ := h
    subst he
    show w__law_alike _ EX _ [.dat d, .dat d, .un]
    unfold w__law_alike
    cases d with
    | tup xs =>
      obtain ⟨m, rfl⟩ : ∃ m, n = m + 1 := by
        cases n with
        | zero => exact (show False from ha).elim
        | succ m => exact ⟨m, rfl⟩
      obtain ⟨hl, ha⟩ : xs.length ≤ 1000000 ∧ ∀ x ∈ xs, Al m x := ha
      l_fact
      refine ⟨by simp, ?_⟩
      rw [if_neg (by simp)]
      refine ⟨⟨by decide, by decide, by omega, by omega⟩, ?_⟩
      refine lcD_fun (fun _ => none) (fun x hx k hk => ?_) ?_
      · obtain ⟨i, hi⟩ := List.getElem?_of_mem hx
        obtain ⟨h1, rfl⟩ := rngD_at hi
        have h1 : i < xs.length := by omega
        l_fact
        have e : atD xs (0 + (i : Int)) = some xs[i] := by
          rw [Int.zero_add]
          exact atD_nat (List.getElem?_eq_getElem h1)
        rw [e]
        l_fact
        refine ⟨rfl, ha _ (List.getElem_mem h1), ?_⟩
        l_fact
        exact hk
      · rw [List.filterMap_eq_nil_iff.mpr (fun _ _ => rfl)]
        simp [hq]
    | non =>
      l_fact
      simpa using hq
    | str x =>
      have hs : PyData.strOk x = true := by cases n <;> exact ha
      l_fact
      simp [hs, hq]
    | int i =>
      l_fact
      simpa using hq
    | bl b =>
      l_fact
      simpa using hq
    | _ => cases n <;> exact (show False from ha).elim
  · exact h.elim

/- slots of _law_table: 0 row 1 wide 2 gaps 3 most 4 found 5 log 6 order -/
theorem p__law_table (ds : List D) (Q : D → Prop) (EX : Str → Prop) (h : S__law_table ds Q EX) : w__law_table EX { nx := fun _ => Q .non, rt := Q } (startD N__law_table ds) := by
  unfold S__law_table at h
  split at h
  · show w__law_table EX _ [.dat .row, .un, .un, .un, .un, .un, .un]
    unfold w__law_table
    refine seq_to (fun S => ∃ (m : Nat) (gp mo : Int), S = [.dat .row, .dat (.int m), .dat (.int gp), .dat (.int mo), .un, .un, .un] ∧ (1 ≤ m ∧ m ≤ 6) ∧ 2 ≤ mo ∧ mo ≤ 1000) (fun K hK => ?_) ?_
    · l_fact
      refine taken_e (by omega) (by omega) fun u u0 u1 => ?_
      l_fact
      refine taken_e (by omega) (by omega) fun gp _ _ => ?_
      l_fact
      refine ⟨by decide, pick_i [2, 9, 1000] (by decide) (by decide) fun b hb => ?_⟩
      simp at hb
      l_fact
      repeat refine And.intro (by decide) ?_
      exact hK _ ⟨(1 + u).toNat, gp, b, by rw [Int.toNat_of_nonneg (by omega)], by omega, by omega⟩
    rintro _ ⟨m, gp, mo, rfl, hm, hmo⟩
    refine seq_to (fun S => S = [.dat .row, .dat (.int m), .dat (.int gp), .dat (.int mo), .own (([] : List (List Int)).map fun r => D.tup (r.map D.int)), .un, .un]) (fun K hK => by l_fact; exact ⟨by decide, hK _ rfl⟩) ?_
    rintro _ rfl
    refine seq_to (fun S => ∃ (ts : List (List Int)) (x5 : SV), S = [.dat .row, .dat (.int m), .dat (.int gp), .dat (.int mo), .own (ts.map fun r => D.tup (r.map D.int)), x5, .un] ∧ (1 ≤ ts.length ∧ ts.length ≤ 6) ∧ ∀ r ∈ ts, r.length = m ∧ ∀ z ∈ r, -1 ≤ z ∧ z ≤ 999) (fun K hK => ?_) ?_
    · l_fact
      refine taken_e (by omega) (by omega) fun u u0 u1 => ?_
      l_fact
      refine ⟨⟨by decide, by decide, by omega, by omega⟩, ?_⟩
      refine forD_ind (fun i S => ∃ (ts : List (List Int)) (x5 : SV), S = [.dat .row, .dat (.int m), .dat (.int gp), .dat (.int mo), .own (ts.map fun r => D.tup (r.map D.int)), x5, .un] ∧ ts.length = i ∧ ∀ r ∈ ts, r.length = m ∧ ∀ z ∈ r, -1 ≤ z ∧ z ≤ 999) ⟨[], _, rfl, rfl, fun r hr => by cases hr⟩ (fun i x S K2 hx hI hK2 => ?_) (fun S hI => ?_)
      · obtain ⟨ts, x5, rfl, tl, ht⟩ := hI
        obtain ⟨il, rfl⟩ := rngD_at hx
        simp only [y_bName, x_set0, x_setS]
        l_fact
        refine ⟨⟨by decide, by decide, by omega, by omega⟩, ?_⟩
        rw [rngD_rg]
        refine lcD_rel D.int D.int (fun _ z => -1 ≤ z ∧ z ≤ 999) (fun y hy k hk => ?_) (fun zs hz => ?_)
        · l_fact
          refine taken_e (by omega) (by omega) fun v v0 v1 => ?_
          l_fact
          by_cases q : v < gp
          · rw [if_pos q]
            exact hk (-1) ⟨by omega, by omega⟩
          · rw [if_neg q]
            exact taken_e (by omega) (by omega) fun v v0 v1 => hk v ⟨by omega, by omega⟩
        · have zl := hz.length
          rw [rg_len] at zl
          l_fact
          rw [List.length_map]
          refine ⟨by omega, hK2 _ ⟨ts ++ [zs], .dat (.int (0 + (i : Int))), by rw [List.map_append]; rfl, by rw [List.length_append, tl]; rfl, fun r hr => ?_⟩⟩
          rcases List.mem_append.mp hr with hr | hr
          · exact ht r hr
          · rw [List.mem_singleton.mp hr]
            exact ⟨by omega, hz.all fun _ _ q => q⟩
      · obtain ⟨ts, x5, rfl, tl, ht⟩ := hI
        rw [rngD_size] at tl
        exact hK _ ⟨ts, x5, rfl, by omega, ht⟩
    rintro _ ⟨ts, x5, rfl, tl, ht⟩
    have w : wT ts = m := (ht _ (List.mem_of_getElem? (at_getD [] (show 0 < ts.length by omega)))).1
    l_fact
    exact h ts ⟨⟨by omega, by omega⟩, by omega, fun r hr => by rw [w]; exact ht r hr⟩ (by omega) (by omega)
  · exact h.elim

/- slots of _law_most: 0 table 1 known 2 line 3 later 4 own 5 order 6 key -/
theorem p__law_most (ds : List D) (Q : D → Prop) (EX : Str → Prop) (h : S__law_most ds Q EX) : w__law_most EX { nx := fun _ => Q .non, rt := Q } (startD N__law_most ds) := by
  unfold S__law_most at h
  split at h
  · rename_i d
    obtain ⟨ts, rfl, hm, hq⟩ := h
    show w__law_most EX _ [.dat (encT ts), .un, .un, .un, .un, .un, .un]
    have hl := hm.len
    have hw := hm.wid
    have p256 : 2 ^ wT ts ≤ 2 ^ 8 := Nat.pow_le_pow_right (by decide) (by omega)
    unfold w__law_most
    refine seq_to (fun S => S = [.dat (encT ts), .dat (.dI [((0 : Int), D.int 0)]), .un, .un, .un, .un, .un]) (fun K hK => ?_) ?_
    · l_fact
      exact hK _ rfl
    rintro _ rfl
    refine seq_to (fun S => ∃ (kvs : List (Int × D)) (x2 x3 x4 x5 x6 : SV), S = [.dat (encT ts), .dat (.dI kvs), x2, x3, x4, x5, x6] ∧ TabG ts (2 ^ wT ts - 1) kvs ∧ x4.shared = true) (fun K hK => ?_) ?_
    · unfold encT
      l_fact
      refine forD_ind (fun i S => ∃ (kvs : List (Int × D)) (x2 x3 x4 x5 x6 : SV), S = [.dat (.tup (ts.map fun r => D.tup (r.map D.int))), .dat (.dI kvs), x2, x3, x4, x5, x6] ∧ TabG (ts.take i) (2 ^ wT ts - 1) kvs ∧ x4.shared = true) ⟨_, _, _, _, _, _, rfl, tabG_nil _, rfl⟩ (fun i x S K2 hx hI hK2 => ?_) (fun S hI => ?_)
      · obtain ⟨kvs, x2, x3, x4, x5, x6, rfl, T, sh4⟩ := hI
        obtain ⟨row, hr, rfl⟩ := map_at hx
        have il := (List.getElem?_eq_some_iff.mp hr).1
        rw [take_at hr] at hK2
        obtain ⟨rl, rb⟩ := hm.row row (List.mem_of_getElem? hr)
        have hr1 : ∀ r ∈ ts.take i, r.length ≤ wT ts := fun r h => hm.le r (List.mem_of_mem_take h)
        have hr2 : ∀ r ∈ ts.take i ++ [row], r.length ≤ wT ts := fun r h => by
          rcases List.mem_append.mp h with h | h
          · exact hr1 r h
          · rw [List.mem_singleton.mp h]
            omega
        have kl := T.len hr1
        simp only [y_bName, x_set0, x_setS]
        refine seq_to (fun S => S = [.dat (.tup (ts.map fun r => D.tup (r.map D.int))), .dat (.dI kvs), .dat (.tup (row.map D.int)), .ownI kvs, x4, x5, x6]) (fun K hK => ?_) ?_
        · l_fact
          exact hK _ rfl
        rintro _ rfl
        refine seq_to (fun S => ∃ (later : List (Int × D)) (x4 x5 x6 : SV), S = [.dat (.tup (ts.map fun r => D.tup (r.map D.int))), .dat (.dI kvs), .dat (.tup (row.map D.int)), .ownI later, x4, x5, x6] ∧ TabS (ts.take i) row kvs later kvs.length 0 ∧ x4.shared = true) (fun K hK => ?_) ?_
        · l_fact
          refine ⟨by omega, ?_⟩
          refine forD_ind (fun a S => ∃ (later : List (Int × D)) (x4 x5 x6 : SV), S = [.dat (.tup (ts.map fun r => D.tup (r.map D.int))), .dat (.dI kvs), .dat (.tup (row.map D.int)), .ownI later, x4, x5, x6] ∧ TabS (ts.take i) row kvs later a 0 ∧ x4.shared = true) ⟨kvs, _, _, _, rfl, tabS_0 T, sh4⟩ (fun a x S K3 hx hI hK3 => ?_) (fun S hI => ?_)
          · obtain ⟨later, x4, x5, x6, rfl, TS, _⟩ := hI
            obtain ⟨p, hp, rfl⟩ := map_at hx
            have kv := T.vat (List.mem_map.mpr ⟨p, List.mem_of_getElem? hp, rfl⟩)
            obtain ⟨tt, ett, ⟨gg, q1, q2, q3, q4⟩, _⟩ := T.val kv
            generalize hU : msk (os gg) = U at q3
            generalize vat kvs p.1 = t at kv
            simp only [y_bName, x_set0, x_setS]
            rw [q3]
            l_fact
            rw [List.length_map]
            refine ⟨⟨by decide, by decide, by omega, by omega⟩, ?_⟩
            rw [rngD_eq, Int.toNat_natCast]
            simp only [List.map_map]
            refine forD_ind (fun b S => ∃ (later : List (Int × D)) (x5 x6 : SV), S = [.dat (.tup (ts.map fun r => D.tup (r.map D.int))), .dat (.dI kvs), .dat (.tup (row.map D.int)), .ownI later, .dat (.int U), x5, x6] ∧ TabS (ts.take i) row kvs later a b) ⟨later, _, _, rfl, TS⟩ (fun b x S K4 hx hI hK4 => ?_) (fun S hI => ?_)
            · obtain ⟨later, x5, x6, rfl, TS⟩ := hI
              obtain ⟨j, hj, rfl⟩ := map_at hx
              obtain ⟨bl, e⟩ := List.getElem?_eq_some_iff.mp hj
              rw [List.getElem_range] at e
              subst e
              rw [List.length_range] at bl
              show bName 5 (.int (0 + (b : Int))) _ _
              rw [Int.zero_add]
              simp only [y_bName, x_set0, x_setS]
              have skip : (U.testBit b = false → ¬ 0 ≤ row.getD b 0) → TabS (ts.take i) row kvs later a (b + 1) := fun no => TS.weak fun i' p' U' j' h1 h2 h3 h4 h5 h6 => by
                by_cases e : i' = a ∧ j' = b
                · obtain ⟨rfl, rfl⟩ := e
                  rw [hp] at h1
                  cases h1
                  have : U' = U := by omega
                  subst this
                  exact (no h5 h6).elim
                · omega
              l_fact
              rw [Int.toNat_natCast, bit_at]
              refine ⟨by omega, ⟨by simp, by simp⟩, ?_⟩
              rw [eqD_int]
              by_cases tb : U.testBit b = true
              · rw [if_pos tb, if_neg (by decide)]
                exact hK4 _ ⟨later, _, _, rfl, skip fun z => by rw [tb] at z; cases z⟩
              · rw [if_neg tb, if_pos (by decide)]
                have tb : U.testBit b = false := by simpa using tb
                rw [atG bl]
                l_fact
                by_cases r0 : 0 ≤ row.getD b 0
                · rw [if_pos (by simpa using r0), one_shl, bOr]
                  refine ⟨⟨by omega, by omega, by decide, by decide⟩, ?_⟩
                  have old : ∃ o, (lookI later ((U ||| 2 ^ b : Nat) : Int)).getD (.int 0) = .int o := by
                    cases hL : lookI later ((U ||| 2 ^ b : Nat) : Int) with
                    | none => exact ⟨_, rfl⟩
                    | some d =>
                      obtain ⟨_, _, _, rfl⟩ := TS.sound _ _ hL
                      exact ⟨_, rfl⟩
                  obtain ⟨o, ho⟩ := old
                  have kv' := kv
                  rw [q3] at kv'
                  rw [ho, kv']
                  l_fact
                  have ll : later.length ≤ 2 ^ wT ts := by
                    have := keys_bound (l := (List.range (2 ^ wT ts)).map fun n : Nat => (n : Int)) TS.nd fun k hk => by
                      rw [mem_keys] at hk
                      cases e : lookK later k with
                      | none => rw [e] at hk; cases hk
                      | some d =>
                        obtain ⟨g, g1, rfl, _⟩ := TS.sound k d e
                        exact List.mem_map.mpr ⟨_, List.mem_range.mpr (msk_lt (os_lt g1.ok hr2)), rfl⟩
                    rwa [List.length_map, List.length_range] at this
                  exact ⟨by omega, hK4 _ ⟨_, _, _, rfl, TS.put T hp q3 bl tb r0 kv ho⟩⟩
                · rw [if_neg (by simpa using r0)]
                  exact hK4 _ ⟨later, _, _, rfl, skip fun _ => r0⟩
            · obtain ⟨later, x5, x6, rfl, TS⟩ := hI
              rw [List.length_map, List.length_range] at TS
              exact hK3 _ ⟨later, .dat (.int U), _, _, rfl, TS.weak fun i' p' U' j' h1 h2 h3 h4 h5 h6 => (by omega), rfl⟩
          · obtain ⟨later, x4, x5, x6, rfl, TS, sh4⟩ := hI
            rw [List.length_map] at TS
            exact hK _ ⟨later, x4, x5, x6, rfl, TS, sh4⟩
        rintro _ ⟨later, x4, x5, x6, rfl, TS, sh4⟩
        l_fact
        exact hK2 _ ⟨later, _, _, x4, _, _, rfl, TS.all T hr2, sh4⟩
      · obtain ⟨kvs, x2, x3, x4, x5, x6, rfl, T, sh4⟩ := hI
        rw [List.length_map, List.take_length] at T
        exact hK _ ⟨kvs, x2, x3, x4, x5, x6, rfl, T, sh4⟩
    rintro _ ⟨kvs, x2, x3, x4, x5, x6, rfl, T, sh4⟩
    have kl := T.len hm.le
    l_fact
    refine ⟨by omega, ?_⟩
    first | refine ⟨sh4, ?_⟩ | skip
    refine lcD_map _ (fun p : Int × D => some (.int (vat kvs p.1))) (fun p hp k hk => ?_) ?_
    · l_fact
      rw [T.vat (List.mem_map.mpr ⟨p, hp, rfl⟩)]
      exact hk
    · rw [List.filterMap_eq_map']
      refine ⟨(kvs.map (·.1)).map (vat kvs), by rw [List.map_map, List.map_map]; rfl, fun z => ?_, fun m m1 m2 => hq m (T.most m1 m2)⟩
      rw [List.map_eq_nil_iff, List.map_eq_nil_iff] at z
      exact T.ne z
  · exact h.elim

/- slots of _law_fine: 0 table 1 logs 2 orders 3 at 4 own 5 order -/
theorem p__law_fine (ds : List D) (Q : D → Prop) (EX : Str → Prop) (h : S__law_fine ds Q EX) : w__law_fine EX { nx := fun _ => Q .non, rt := Q } (startD N__law_fine ds) := by
  unfold S__law_fine at h
  split at h
  · rename_i d a b
    obtain ⟨ts, ls, us, rfl, hm, ha, hb, ll, ul, yes, no⟩ := h
    show w__law_fine EX _ [.dat (encT ts), .dat a, .dat b, .un, .un, .un]
    have hl := hm.len
    have hw := hm.wid
    have la : ∀ k, list1 [a] k = k (ls.map D.int) := fun k => by rcases ha with rfl | rfl <;> rfl
    have lb : ∀ k, list1 [b] k = k (us.map D.int) := fun k => by rcases hb with rfl | rfl <;> rfl
    have ia : ∀ j k, ixS a (.int j) k = okO (atD (ls.map D.int) j) k := fun j k => by rcases ha with rfl | rfl <;> rfl
    have ib : ∀ j k, ixS b (.int j) k = okO (atD (us.map D.int) j) k := fun j k => by rcases hb with rfl | rfl <;> rfl
    have nb : ∀ k, len1 [b] k = k (.int (us.length : Nat)) := fun k => by
      rcases hb with rfl | rfl
      · l_fact
        rw [List.length_map]
      · l_fact
        rw [List.length_map]
    unfold w__law_fine
    refine seq_to (fun S => (∀ z ∈ ls ++ us, 0 ≤ z ∧ z ≤ 999) ∧ S = [.dat (encT ts), .dat a, .dat b, .un, .un, .un]) (fun K hK => ?_) ?_
    · l_fact
      rw [la]
      l_fact
      rw [lb]
      l_fact
      rw [List.length_map, List.length_map]
      refine ⟨by omega, ?_⟩
      rw [← List.map_append]
      refine lcD_filter _ (fun z : Int => decide (z < 0) || decide (999 < z)) (fun z hz k hk => ?_) ?_
      · l_fact
        by_cases q : z < 0
        · rw [if_pos q]
          rw [decide_eq_true q, Bool.true_or, if_pos rfl] at hk
          exact hk
        · rw [if_neg q]
          rw [decide_eq_false q, Bool.false_or] at hk
          by_cases q2 : 999 < z
          · rw [if_pos q2]
            rw [if_pos (decide_eq_true q2)] at hk
            exact hk
          · rw [if_neg q2]
            rw [if_neg (by simpa using q2)] at hk
            exact hk
      · l_fact
        refine ⟨by decide, ⟨fun x hx => (by obtain ⟨i, _, rfl⟩ := List.mem_map.mp hx; simp), by simp⟩, ?_⟩
        rw [eqD_lst, eqDs_e9, List.isEmpty_map]
        by_cases q : ∀ z ∈ ls ++ us, 0 ≤ z ∧ z ≤ 999
        · have e : ((ls ++ us).filter fun z : Int => decide (z < 0) || decide (999 < z)).isEmpty = true := by
            rw [List.isEmpty_iff, List.filter_eq_nil_iff]
            intro z hz
            have := q z hz
            rw [Bool.or_eq_true, decide_eq_true_eq, decide_eq_true_eq]
            omega
          rw [e, if_neg (by decide)]
          exact hK _ ⟨q, rfl⟩
        · have e : ((ls ++ us).filter fun z : Int => decide (z < 0) || decide (999 < z)).isEmpty = false := by
            rw [Bool.eq_false_iff]
            intro z
            rw [List.isEmpty_iff, List.filter_eq_nil_iff] at z
            refine q fun y hy => ?_
            have := z y hy
            rw [Bool.or_eq_true, decide_eq_true_eq, decide_eq_true_eq] at this
            omega
          rw [e, if_pos (by decide)]
          exact no fun w => q w.1
    rintro _ ⟨bnd, rfl⟩
    refine seq_to (fun S => Fine ts ls us) (fun K hK => ?_) ?_
    · unfold encT
      l_fact
      rw [List.length_map]
      refine ⟨⟨by decide, by decide, by omega, by omega⟩, ?_⟩
      refine forD_ind (fun i S => ∃ x3 x4 x5, S = [.dat (.tup (ts.map fun r => D.tup (r.map D.int))), .dat a, .dat b, x3, x4, x5] ∧ x5.shared = true ∧ ∀ i', i' < i → ∀ j, j < wT ts → tv ts i' j ≤ ls.getD i' 0 + us.getD j 0) ⟨_, _, _, rfl, rfl, fun i' h => by omega⟩ (fun i x S K2 hx hI hK2 => ?_) (fun S hI => ?_)
      · obtain ⟨x3, x4, x5, rfl, s5, hI⟩ := hI
        obtain ⟨il, rfl⟩ := rngD_at hx
        rw [Int.toNat_natCast] at il
        have rl := hm.rowlen il
        rw [Int.zero_add]
        simp only [y_bName, x_set0, x_setS]
        l_fact
        rw [nb]
        l_fact
        refine ⟨⟨by decide, by decide, by omega, by omega⟩, ?_⟩
        first | refine And.intro s5 ?_ | skip
        rw [rngD_eq, Int.toNat_natCast]
        simp only [List.map_map]
        refine lcD_sel _ (fun j : Nat => decide (ls.getD i 0 + us.getD j 0 < tv ts i j)) (fun j => D.int 1) (fun j hj k hk => ?_) ?_
        · have hj := List.mem_range.mp hj
          show lcStep _ _ _ _ _ (.int (0 + (j : Int))) k
          rw [Int.zero_add]
          l_fact
          rw [row_at il]
          l_fact
          rw [cell_at (show j < (ts.getD i []).length by omega)]
          l_fact
          rw [ia, atG (show i < ls.length by omega)]
          l_fact
          rw [ib, atG (show j < us.length by omega)]
          l_fact
          change if ls.getD i 0 + us.getD j 0 < tv ts i j then k (some (D.int 1)) else k none
          by_cases q : ls.getD i 0 + us.getD j 0 < tv ts i j
          · rw [if_pos (decide_eq_true q)] at hk
            rw [if_pos q]
            exact hk
          · rw [if_neg (by simpa using q)] at hk
            rw [if_neg q]
            exact hk
        · l_fact
          refine ⟨by decide, ⟨fun x hx => (by obtain ⟨i, _, rfl⟩ := List.mem_map.mp hx; simp), by simp⟩, ?_⟩
          rw [eqD_lst, eqDs_e9, List.isEmpty_map, ul]
          by_cases q : ∀ j, j < wT ts → tv ts i j ≤ ls.getD i 0 + us.getD j 0
          · have e : ((List.range (wT ts)).filter fun j : Nat => decide (ls.getD i 0 + us.getD j 0 < tv ts i j)).isEmpty = true := by
              rw [List.isEmpty_iff, List.filter_eq_nil_iff]
              intro j hj
              have := q j (List.mem_range.mp hj)
              rw [decide_eq_true_eq]
              omega
            rw [e, if_neg (by decide)]
            refine hK2 _ ⟨_, _, _, rfl, s5, fun i' hi' => ?_⟩
            by_cases e : i' = i
            · subst e
              exact q
            · exact hI i' (by omega)
          · have e : ((List.range (wT ts)).filter fun j : Nat => decide (ls.getD i 0 + us.getD j 0 < tv ts i j)).isEmpty = false := by
              rw [Bool.eq_false_iff]
              intro z
              rw [List.isEmpty_iff, List.filter_eq_nil_iff] at z
              refine q fun j hj => ?_
              have := z j (List.mem_range.mpr hj)
              rw [decide_eq_true_eq] at this
              omega
            rw [e, if_pos (by decide)]
            exact no fun w => q (w.2 i il)
      · obtain ⟨x3, x4, x5, rfl, _, hI⟩ := hI
        rw [rngD_size, Int.toNat_natCast] at hI
        exact hK _ ⟨bnd, hI⟩
    intro S hF
    l_fact
    exact yes hF
  · exact h.elim

/- slots of _law_case: 0 row 1 table 2 logs 3 orders 4 turn 5 one 6 two 7 side 8 at 9 some 10 wrong 11 odd 12 told 13 own 14 value -/
theorem ip_e {ts : List (List Int)} {ls us : List Int} {Q : D → Prop} {E : Str → Prop} (hm : OkT ts) (ll : ls.length = ts.length) (ul : us.length = wT ts) (h1 : Fine ts ls us → Q (.bl true)) (h2 : ¬ Fine ts ls us → Q (.bl false)) : S_is_prices [encT ts, .tup [.tup (ls.map D.int), .tup (us.map D.int)]] Q E :=
  ⟨sh_encT ts 3, by
    simp only [sh_tup, List.mem_cons, List.not_mem_nil, or_false]
    rintro x (rfl | rfl)
    · exact sh_I ls 3
    · exact sh_I us 3, fun w => (w ⟨ts, rfl, hm⟩).elim, fun ts' e _ => by
    cases encT_inj e
    refine ⟨fun no => h2 fun w => no ⟨ls, us, rfl, ll, ul, w⟩, fun ls' us' w => h1 ?_⟩
    obtain ⟨rfl, rfl⟩ := ip_inj w.eq
    exact w.fine⟩
theorem ip_bad {ts : List (List Int)} {v : D} {Q : D → Prop} {E : Str → Prop} (hm : OkT ts) (hs : Sh 5 v) (hb : ∀ ls us, ¬ IsPr ts v ls us) (h : Q (.bl false)) : S_is_prices [encT ts, v] Q E :=
  ⟨sh_encT ts 3, hs, fun w => (w ⟨ts, rfl, hm⟩).elim, fun ts' e _ => by
    cases encT_inj e
    exact ⟨fun _ => h, fun a b w => (hb a b w).elim⟩⟩
theorem ixD_ok {n : Nat} {i : Int} (h0 : 0 ≤ i) (h1 : i < n) : ixD n i = some i.toNat := by
  unfold ixD
  rw [if_pos h0, if_pos h1]
theorem atG' {xs : List Int} {i : Int} (h0 : 0 ≤ i) (h1 : i < xs.length) : atD (xs.map D.int) i = some (.int (xs.getD i.toNat 0)) := by
  have := atG (xs := xs) (i := i.toNat) (by omega)
  rwa [Int.toNat_of_nonneg h0] at this
theorem p__law_case (ds : List D) (Q : D → Prop) (EX : Str → Prop) (h : S__law_case ds Q EX) : w__law_case EX { nx := fun _ => Q .non, rt := Q } (startD N__law_case ds) := by
  unfold S__law_case at h
  split at h
  · show w__law_case EX _ [.dat .row, .un, .un, .un, .un, .un, .un, .un, .un, .un, .un, .un, .un, .un, .un]
    unfold w__law_case
    refine seq_to (fun S => ∃ ts, S = [.dat .row, .dat (encT ts), .un, .un, .un, .un, .un, .un, .un, .un, .un, .un, .un, .un, .un] ∧ OkT ts) (fun K hK => ?_) ?_
    · l_fact
      exact fun ts hm l6 w6 => hK _ ⟨ts, rfl, hm⟩
    rintro _ ⟨ts, rfl, hm⟩
    have hl := hm.len
    have hw := hm.wid
    have noT : ∀ {z : Prop}, ¬ IsT (encT ts) → z := fun w => (w ⟨ts, rfl, hm⟩).elim
    refine seq_to (fun S => ∃ (b : Int) (ls us : List Int), S = [.dat .row, .dat (encT ts), .dat (.tup (ls.map D.int)), .dat (.tup (us.map D.int)), .un, .un, .un, .un, .un, .un, .un, .un, .un, .un, .un] ∧ PrOf ts b ls us) (fun K hK => ?_) ?_
    · l_fact
      refine ⟨sh_encT ts 3, noT, fun ts' e _ b ls us P => ?_⟩
      cases encT_inj e
      l_fact
      first | exact hK _ ⟨b, ls, us, rfl, P⟩ | exact ⟨rfl, hK _ ⟨b, ls, us, rfl, P⟩⟩ | (rw [bT2]; exact hK _ ⟨b, ls, us, rfl, P⟩)
    rintro _ ⟨b, ls, us, rfl, P⟩
    have ll := P.ll
    have ul := P.ul
    obtain ⟨F, sm⟩ := P.fine hm
    refine seq_to (fun S => S = [.dat .row, .dat (encT ts), .dat (.tup (ls.map D.int)), .dat (.tup (us.map D.int)), .un, .un, .un, .un, .un, .un, .un, .un, .un, .un, .un]) (fun K hK => ?_) ?_
    · unfold encT at hK ⊢
      l_fact
      rw [if_neg (by decide), if_neg (by decide), List.length_map, List.length_map]
      refine ⟨⟨by simp, by simp⟩, ?_⟩
      rw [eqD_int, decide_eq_true (show (ls.length : Int) = (ts.length : Int) by omega), if_neg (by decide), row0 hm]
      l_fact
      rw [List.length_map, List.length_map, show (ts.getD 0 []).length = wT ts from rfl]
      refine ⟨⟨by simp, by simp⟩, ?_⟩
      rw [eqD_int, decide_eq_true (show (us.length : Int) = (wT ts : Int) by omega), if_neg (by decide)]
      exact hK _ rfl
    rintro _ rfl
    refine seq_to (fun S => S = [.dat .row, .dat (encT ts), .dat (.tup (ls.map D.int)), .dat (.tup (us.map D.int)), .un, .un, .un, .un, .un, .un, .un, .un, .un, .un, .un]) (fun K hK => ?_) ?_
    · l_fact
      refine ⟨ts, ls, us, rfl, hm, .inl rfl, .inl rfl, ll, ul, fun _ => ?_, fun no => (no F).elim⟩
      l_fact
      first | rw [if_neg (by decide)] | skip
      rw [sumT_e]
      refine ⟨ls, rfl, ?_⟩
      rw [sumT_e]
      refine ⟨us, rfl, ?_⟩
      l_fact
      refine ⟨ts, rfl, hm, fun t M => ?_⟩
      have et : t = b := M.uniq P.most
      refine ⟨⟨by simp, by simp⟩, ?_⟩
      rw [eqD_int, decide_eq_true (show ls.sum + us.sum = t by omega), if_neg (by decide)]
      refine ⟨by decide, ip_e hm ll ul (fun _ => ?_) fun no => (no F).elim⟩
      l_fact
      first | rw [if_neg (by decide)] | skip
      exact hK _ rfl
    rintro _ rfl
    refine seq_to (fun S => ∃ x4 x5 x6 x7 x8, S = [.dat .row, .dat (encT ts), .dat (.tup (ls.map D.int)), .dat (.tup (us.map D.int)), x4, x5, x6, x7, x8, .un, .un, .un, .un, .un, .un]) (fun K hK => ?_) ?_
    · l_fact
      refine ⟨⟨by decide, by decide, by decide, by decide⟩, ?_⟩
      refine forD_ind (fun _ S => ∃ x4 x5 x6 x7 x8, S = [.dat .row, .dat (encT ts), .dat (.tup (ls.map D.int)), .dat (.tup (us.map D.int)), x4, x5, x6, x7, x8, .un, .un, .un, .un, .un, .un]) ⟨_, _, _, _, _, rfl⟩ (fun i x S K2 hx hI hK2 => ?_) (fun S hI => hK _ hI)
      obtain ⟨x4, x5, x6, x7, x8, rfl⟩ := hI
      obtain ⟨il, rfl⟩ := rngD_at hx
      simp only [y_bName, x_set0, x_setS]
      refine seq_to (fun S => S = [.dat .row, .dat (encT ts), .dat (.tup (ls.map D.int)), .dat (.tup (us.map D.int)), .dat (.int (0 + (i : Int))), .own (ls.map D.int), .own (us.map D.int), x7, x8, .un, .un, .un, .un, .un, .un]) (fun K hK => ?_) ?_
      · l_fact
        first | exact hK _ rfl | exact ⟨rfl, hK _ rfl⟩
      rintro _ rfl
      refine seq_to (fun S => ∃ (a c : List Int) (x7 x8 : SV), S = [.dat .row, .dat (encT ts), .dat (.tup (ls.map D.int)), .dat (.tup (us.map D.int)), .dat (.int (0 + (i : Int))), .own (a.map D.int), .own (c.map D.int), x7, x8, .un, .un, .un, .un, .un, .un] ∧ a.length = ts.length ∧ c.length = wT ts) (fun K hK => ?_) ?_
      · rw [sPick3_e]
        refine ⟨⟨by simp, by simp⟩, rfl, ?_⟩
        l_fact
        unfold pickBr
        refine ⟨?_, ?_⟩
        · l_fact
          rw [List.length_map]
          refine taken_e (by omega) (by omega) fun v v0 v1 => ?_
          l_fact
          rw [atG' v0 (by omega)]
          l_fact
          refine taken_e (by omega) (by omega) fun y y0 y1 => ?_
          l_fact
          refine ⟨v.toNat, ?_, ?_⟩
          · exact ixD_ok v0 (by omega)
          · exact hK _ ⟨ls.set v.toNat (ls.getD v.toNat 0 + y - 2), us, _, _, by rw [List.map_set], by rw [List.length_set]; exact ll, ul⟩
        · l_fact
          rw [List.length_map]
          refine taken_e (by omega) (by omega) fun v v0 v1 => ?_
          l_fact
          rw [atG' v0 (by omega)]
          l_fact
          refine taken_e (by omega) (by omega) fun y y0 y1 => ?_
          l_fact
          refine ⟨v.toNat, ?_, ?_⟩
          · exact ixD_ok v0 (by omega)
          · exact hK _ ⟨ls, us.set v.toNat (us.getD v.toNat 0 + y - 2), _, _, by rw [List.map_set], ll, by rw [List.length_set]; exact ul⟩
      rintro _ ⟨a, c, x7, x8, rfl, al, cl⟩
      refine seq_to (fun S => ∃ (a c : List Int), S = [.dat .row, .dat (encT ts), .dat (.tup (ls.map D.int)), .dat (.tup (us.map D.int)), .dat (.int (0 + (i : Int))), .own (a.map D.int), .own (c.map D.int), x7, x8, .un, .un, .un, .un, .un, .un] ∧ a.length = ts.length ∧ c.length = wT ts) (fun K hK => ?_) ?_
      · l_fact
        refine taken_e (by omega) (by omega) fun y y0 y1 => ?_
        refine ⟨⟨by simp, by simp⟩, ?_⟩
        rw [eqD_int]
        by_cases q : y = 0
        · rw [decide_eq_true q, if_pos rfl]
          refine lcD_map _ (fun z : Int => some (.int (max 0 (z - 1)))) (fun z hz k hk => ?_) ?_
          · l_fact
            exact hk
          rw [List.filterMap_eq_map']
          refine lcD_map _ (fun z : Int => some (.int (z + 1))) (fun z hz k hk => ?_) ?_
          · l_fact
            exact hk
          rw [List.filterMap_eq_map']
          l_fact
          first | refine ⟨rfl, ?_⟩ | skip
          exact hK _ ⟨a.map fun z => max 0 (z - 1), c.map fun z => z + 1, by rw [List.map_map, List.map_map]; rfl, by rw [List.length_map]; exact al, by rw [List.length_map]; exact cl⟩
        · rw [decide_eq_false q, if_neg (by decide)]
          exact hK _ ⟨a, c, rfl, al, cl⟩
      rintro _ ⟨a, c, rfl, al, cl⟩
      by_cases f : Fine ts a c
      · l_fact
        repeat refine And.intro (by first | rfl | decide) ?_
        refine ip_e hm al cl (fun _ => ?_) fun no => (no f).elim
        l_fact
        refine ⟨ts, a, c, rfl, hm, .inr rfl, .inr rfl, al, cl, fun _ => ?_, fun no => (no f).elim⟩
        l_fact
        rw [if_neg (by simp)]
        exact hK2 _ ⟨_, _, _, _, _, rfl⟩
      · l_fact
        repeat refine And.intro (by first | rfl | decide) ?_
        refine ip_e hm al cl (fun w => (f w).elim) fun _ => ?_
        l_fact
        refine ⟨ts, a, c, rfl, hm, .inr rfl, .inr rfl, al, cl, fun w => (f w).elim, fun _ => ?_⟩
        l_fact
        rw [if_neg (by simp)]
        exact hK2 _ ⟨_, _, _, _, _, rfl⟩
    rintro _ ⟨x4, x5, x6, x7, x8, rfl⟩
    have lr : ∀ n : Nat, (List.replicate n [D.bl true]).flatten = List.replicate n (D.bl true) := fun n => rep_eq n _
    refine seq_to (fun S => S = [.dat .row, .dat (encT ts), .dat (.tup (ls.map D.int)), .dat (.tup (us.map D.int)), x4, x5, x6, x7, x8, .dat (.tup [.non, .tup [.tup (ls.map D.int)], .lst [.tup (ls.map D.int), .tup (us.map D.int)], .tup [.tup ((ls ++ [0]).map D.int), .tup (us.map D.int)], .tup [.tup (ls.map D.int), .lst (us.map D.int)], .tup [.tup (ls.map D.int), .tup (List.replicate us.length (D.bl true))]]), .un, .un, .un, .un, .un]) (fun K hK => ?_) ?_
    · rw [List.map_append, ← lr] at hK
      l_fact
      rw [List.length_map, List.length_map, Int.toNat_natCast]
      repeat refine And.intro (by first | decide | omega | (simp; omega)) ?_
      exact hK _ rfl
    rintro _ rfl
    refine seq_to (fun S => ∃ x9, S = [.dat .row, .dat (encT ts), .dat (.tup (ls.map D.int)), .dat (.tup (us.map D.int)), x4, x5, x6, x7, x8, x9, .dat (.lst (List.replicate 6 (.bl false))), .un, .un, .un, .un]) (fun K hK => ?_) ?_
    · l_fact
      have shI : ∀ (xs : List Int) (n : Nat), Sh (n + 1) (.tup (xs.map D.int)) := sh_I
      refine ip_bad hm (by simp) (fun l u w => by cases w.eq) ?_
      l_fact
      refine ip_bad hm (by simp only [sh_tup, List.mem_cons, List.not_mem_nil, or_false, forall_eq]; exact shI _ _) (fun l u w => by have e := w.eq; injection e with e; injection e with _ e; cases e) ?_
      l_fact
      refine ip_bad hm (by simp only [sh_lst, List.mem_cons, List.not_mem_nil, or_false]; rintro x (rfl | rfl) <;> exact shI _ _) (fun l u w => by cases w.eq) ?_
      l_fact
      refine ip_bad hm (by simp only [sh_tup, List.mem_cons, List.not_mem_nil, or_false]; rintro x (rfl | rfl) <;> exact shI _ _) (fun l u w => ?_) ?_
      · obtain ⟨e, _⟩ := ip_inj w.eq
        have := w.ll
        rw [← e, List.length_append] at this
        simp at this
        omega
      l_fact
      refine ip_bad hm (by simp only [sh_tup, List.mem_cons, List.not_mem_nil, or_false]; rintro x (rfl | rfl) <;> first | exact shI _ _ | (simp only [sh_lst, List.forall_mem_map]; simp)) (fun l u w => by have e := w.eq; injection e with e; injection e with _ e; injection e with e _; cases e) ?_
      l_fact
      refine ip_bad hm (by simp only [sh_tup, List.mem_cons, List.not_mem_nil, or_false]; rintro x (rfl | rfl) <;> first | exact shI _ _ | (simp only [sh_tup]; intro x hx; rw [List.eq_of_mem_replicate hx]; simp)) (fun l u w => ?_) ?_
      · have e := w.eq
        injection e with e
        injection e with _ e
        injection e with e _
        injection e with e
        have m : D.bl true ∈ u.map D.int := by rw [← e]; exact List.mem_replicate.mpr ⟨by omega, rfl⟩
        obtain ⟨p, _, z⟩ := List.mem_map.mp m
        cases z
      l_fact
      exact hK _ ⟨_, rfl⟩
    rintro _ ⟨x9, rfl⟩
    refine seq_to (fun S => ∃ o, S = [.dat .row, .dat (encT ts), .dat (.tup (ls.map D.int)), .dat (.tup (us.map D.int)), x4, x5, x6, x7, x8, x9, .dat (.lst (List.replicate 6 (.bl false))), .dat o, .un, .un, .un] ∧ BadT o) (fun K hK => ?_) ?_
    · l_fact
      repeat refine And.intro (by decide) ?_
      exact fun o ho => hK _ ⟨o, rfl, badT_of ho⟩
    rintro _ ⟨o, rfl, ho⟩
    have bT : ∀ {z : Prop} {ts'}, o = encT ts' → OkT ts' → z := fun e hz => (ho.2 ⟨_, e, hz⟩).elim
    l_fact
    refine ⟨ho.1, fun _ => ?_, fun ts' e hz => bT e hz⟩
    refine ⟨by decide, ho.1, by simp, fun _ => ?_, fun ts' e hz => bT e hz⟩
    repeat refine And.intro (by decide) ?_
    refine ⟨⟨by simp, by simp⟩, ?_⟩
    rw [if_pos (by rfl)]
    repeat refine And.intro (by decide) ?_
    refine ⟨⟨by simp; decide +kernel, by simp; decide +kernel⟩, ?_⟩
    simpa using h
  · exact h.elim

end DL

set_option Elab.async false
set_option linter.all false
set_option maxRecDepth 100000
set_option maxHeartbeats 4000000

namespace DL
open PySem PySem.Spec PyProof.Rows L2
def topS (i : Nat) : Stmt := PySem.Challenge.pw_logsawn_k10_whole_prices_of_givings.main.body.getD i (.Pass ⟨0, 0, 0, 0⟩)
abbrev st_require : Stmt := topS 3
abbrev st_is_whole : Stmt := topS 4
abbrev st_is_row : Stmt := topS 5
abbrev st_are_wholes : Stmt := topS 6
abbrev st_is_table : Stmt := topS 11
abbrev st_sums_of : Stmt := topS 12
abbrev st_all_orders : Stmt := topS 13
abbrev st_most_of : Stmt := topS 14
abbrev st_prices : Stmt := topS 15
abbrev st_is_prices : Stmt := topS 16
abbrev st__law_taken : Stmt := topS 18
abbrev st__law_pick : Stmt := topS 19
abbrev st__law_refused : Stmt := topS 20
abbrev st__law_alike : Stmt := topS 21
abbrev st__law_table : Stmt := topS 22
abbrev st__law_most : Stmt := topS 23
abbrev st__law_fine : Stmt := topS 24
abbrev st__law_case : Stmt := topS 25
abbrev st_law : Stmt := topS 26
structure Md (K : PySem.W.Frag) (mg : Str → Option Value) : Prop where
  blt : Blt mg
  low : PySem.LowX.LowTxt K mg (He.ga K "BadArgument") (fIn K)
  f_require : ∃ fd, Fun K "require" "require" st_require (He.ga K "require") fd ∧ mg "require" = some (.ref (He.ga K "require"))
  f_is_whole : ∃ fd, Fun K "is_whole" "is_whole" st_is_whole (He.ga K "is_whole") fd ∧ mg "is_whole" = some (.ref (He.ga K "is_whole"))
  f_is_row : ∃ fd, Fun K "is_row" "is_row" st_is_row (He.ga K "is_row") fd ∧ mg "is_row" = some (.ref (He.ga K "is_row"))
  f_are_wholes : ∃ fd, Fun K "are_wholes" "are_wholes" st_are_wholes (He.ga K "are_wholes") fd ∧ mg "are_wholes" = some (.ref (He.ga K "are_wholes"))
  f_is_table : ∃ fd, Fun K "is_table" "is_table" st_is_table (He.ga K "is_table") fd ∧ mg "is_table" = some (.ref (He.ga K "is_table"))
  f_sums_of : ∃ fd, Fun K "sums_of" "sums_of" st_sums_of (He.ga K "sums_of") fd ∧ mg "sums_of" = some (.ref (He.ga K "sums_of"))
  f_all_orders : ∃ fd, Fun K "all_orders" "all_orders" st_all_orders (He.ga K "all_orders") fd ∧ mg "all_orders" = some (.ref (He.ga K "all_orders"))
  f_most_of : ∃ fd, Fun K "most_of" "most_of" st_most_of (He.ga K "most_of") fd ∧ mg "most_of" = some (.ref (He.ga K "most_of"))
  f_prices : ∃ fd, Fun K "prices" "prices" st_prices (He.ga K "prices") fd ∧ mg "prices" = some (.ref (He.ga K "prices"))
  f_is_prices : ∃ fd, Fun K "is_prices" "is_prices" st_is_prices (He.ga K "is_prices") fd ∧ mg "is_prices" = some (.ref (He.ga K "is_prices"))
  f__law_taken : ∃ fd, Fun K "_law_taken" "_law_taken" st__law_taken (He.ga K "_law_taken") fd ∧ mg "_law_taken" = some (.ref (He.ga K "_law_taken"))
  f__law_pick : ∃ fd, Fun K "_law_pick" "_law_pick" st__law_pick (He.ga K "_law_pick") fd ∧ mg "_law_pick" = some (.ref (He.ga K "_law_pick"))
  f__law_refused : ∃ fd, Fun K "_law_refused" "_law_refused" st__law_refused (He.ga K "_law_refused") fd ∧ mg "_law_refused" = some (.ref (He.ga K "_law_refused"))
  f__law_alike : ∃ fd, Fun K "_law_alike" "_law_alike" st__law_alike (He.ga K "_law_alike") fd ∧ mg "_law_alike" = some (.ref (He.ga K "_law_alike"))
  f__law_table : ∃ fd, Fun K "_law_table" "_law_table" st__law_table (He.ga K "_law_table") fd ∧ mg "_law_table" = some (.ref (He.ga K "_law_table"))
  f__law_most : ∃ fd, Fun K "_law_most" "_law_most" st__law_most (He.ga K "_law_most") fd ∧ mg "_law_most" = some (.ref (He.ga K "_law_most"))
  f__law_fine : ∃ fd, Fun K "_law_fine" "_law_fine" st__law_fine (He.ga K "_law_fine") fd ∧ mg "_law_fine" = some (.ref (He.ga K "_law_fine"))
  f__law_case : ∃ fd, Fun K "_law_case" "_law_case" st__law_case (He.ga K "_law_case") fd ∧ mg "_law_case" = some (.ref (He.ga K "_law_case"))
  f_law : ∃ fd, Fun K "law" "law" st_law (He.ga K "law") fd ∧ mg "law" = some (.ref (He.ga K "law"))
  g_MOST_SIDE : ∃ t, mg "MOST_SIDE" = some (.int 7 t)
  g_MOST_WORTH : ∃ t, mg "MOST_WORTH" = some (.int 999 t)
  g_NONE : ∃ t, mg "NONE" = some (.int (-1) t)
section
variable {P : Program} {w : World} {K : PySem.W.Frag} {mg : Str → Option Value} {base : Heap}
theorem sc__law_taken : FnScope ["row", "many", "found", "cell"] ["row", "many"] (defScope st__law_taken) := ⟨rfl, rfl, rfl, by decide +kernel, rfl, by decide +kernel, by decide +kernel⟩
theorem c__law_taken (M : Md K mg) : Callee P w K mg base (lamTab K) (He.ga K "BadArgument") "_law_taken" 1 ["row", "many"] S__law_taken := by
  obtain ⟨fd, F, hm⟩ := M.f__law_taken
  have m := M.blt
  refine ⟨_, fd, F.okX sc__law_taken (fun vs H Q E ⟨pr, ps, xs, F, ds, R0, E0, am, fz, rl, ⟨m, e, _⟩, _⟩ => by rw [rl.length, e]; rfl) (fun cdv A outer s0 H vs Q E hr ⟨pr, ps, xs, F, ds, R0, E0, am, fz, rl, ⟨n, e, n0, n1, hq⟩, kq, _⟩ => ?_), hm, F.kp, F.binds (fun _ _ _ _ _ _ us hl => match us, hl with | [_, _], _ => rfl), by obtain ⟨oc, od, kV, doc, pm, an, cdv, ct, osl, rfl, lk, _⟩ := F.ex; exact ⟨_, _, _, lk⟩⟩
  have nd := sc__law_taken.nd
  refine ⟨_, PSs.nox (pss_cons (ps_if (pt_cmpR op_gt (pe_ix ix_list (pv 0) pe_int (fun _ _ => rfl)) pe_int (nomark _))
      (pss_cons (ps_set (i := 2) nd rfl (.inl rfl) (pe_op op_mod (pe_callTy call_int1 rfl m.int (by decide +kernel) (pa_cons (pe_ix ix_list (pv 0) pe_int (fun _ _ => rfl)) pa_nil)) (pv 1)))
      (pss_cons (ps_asg (pe_op op_fdivW (pe_ix ix_list (pv 0) pe_int (fun _ _ => rfl)) (pv 1)) (pg_sub (pv 0) pe_int set_list))
      (pss_one (ps_ret (pv 2))))) pss_nil)
    (pss_cons (ps_asg (pe_op op_add (pe_ix ix_list (pv 0) pe_int (fun _ _ => rfl)) pe_int) (pg_sub (pv 0) pe_int set_list))
    (pss_cons (ps_if (pt_cmpR op_gt (pe_ix ix_list (pv 0) pe_int (fun _ _ => rfl)) (pe_callB call_len rfl m.len (by decide +kernel) (pa_cons (pe_ix ix_list (pv 0) pe_int (fun _ _ => rfl)) pa_nil)) (nomark _))
      (pss_cons (ps_asg (pe_op op_mod (pe_callTy call_int1 rfl m.int (by decide +kernel) (pa_cons (pe_op op_add (pe_op op_mul (pe_ix ix_list (pv 0) pe_int (fun _ _ => rfl)) pe_int) pe_int) pa_nil)) pe_int) (pg_sub (pv 0) pe_int set_list))
      (pss_one (ps_ret (pe_op op_mod (pe_callTy call_int1 rfl m.int (by decide +kernel) (pa_cons (pe_op op_fdiv (pe_ix ix_list (pv 0) pe_int (fun _ _ => rfl)) pe_int) pa_nil)) (pv 1))))) pss_nil)
    (pss_cons (ps_set (i := 3) nd rfl (.inl rfl) (pe_ix ix_list (pe_ix ix_list (pv 0) pe_int (fun _ _ => rfl)) (pe_op op_sub (pe_ix ix_list (pv 0) pe_int (fun _ _ => rfl)) pe_int) (fun _ _ => rfl)))
    (pss_cons (ps_asg (pe_op op_mod (pe_callTy call_int1 rfl m.int (by decide +kernel) (pa_cons (pe_op op_add (pe_op op_add (pe_op op_mul (pe_ix ix_list (pv 0) pe_int (fun _ _ => rfl)) pe_int) (pe_callTy call_int1 rfl m.int (by decide +kernel) (pa_cons (pv 3) pa_nil))) pe_int) pa_nil)) pe_int) (pg_sub (pv 0) pe_int set_list))
    (pss_cons (ps_if (pt_cmpR op_ge (pv 3) (pe_op op_pow pe_int pe_int) (nomark _))
      (pss_one (ps_asg (pe_op op_fdivW (pe_callTy call_int1 rfl m.int (by decide +kernel) (pa_cons (pe_op op_mod (pe_callTy call_int1 rfl m.int (by decide +kernel) (pa_cons (pv 3) pa_nil)) (pe_op op_pow pe_int pe_int)) pa_nil)) (pv 1)) (pg_sub (pv 0) pe_int set_list))) pss_nil)
    (pss_one (ps_ret (pe_op op_mod (pe_callTy call_int1 rfl m.int (by decide +kernel) (pa_cons (pv 3) pa_nil)) (pv 1)))))))))), ?_⟩
  subst e
  obtain ⟨v0, r0, ev, e0, v1, r1, ev1, e1, e2⟩ := rl
  have e0' : v0 = .ref pr := e0
  have e1' : v1 = .int n := e1
  have e2' : r1 = [] := e2
  subst ev ev1 e0' e1' e2'
  obtain ⟨i, s, b, erow, hi⟩ := id am.row
  have fin : ∀ {i' s' b' v : Int}, 0 ≤ i' → 0 ≤ v → v < n → Q (.int v) (upd H pr (.lst [.ref ps, .int i', .int s', .int b'])) := fun {i' s' b' v} h0 h1 h2 => by
    obtain ⟨a1, a2, a3, a4⟩ := rowOk (s := s') (b := b') am h0 fz
    exact kq (.int v) (.int v) F _ (hq v h1 h2) a2 a1 a3 a4 rfl
  have dv : ∀ z : Int, CDivW z n := fun z => wide_div (b := 200) n0 (by omega) (by decide) (by decide)
  have c48 : ∀ z : Int, CMul z 48271 := fun z => .inr ⟨by decide, by decide⟩
  refine ⟨_, rfl, pr, _, 3, _, rfl, rfl, .of erow, atI3 .., b, 0, rfl, rfl, _, rfl, ?_⟩
  by_cases hb : 0 < b
  · rw [decide_eq_true hb]
    refine L2.iteT ?_
    refine ⟨_, rfl, pr, _, 3, _, rfl, rfl, .of erow, atI3 .., .inl ⟨b, rfl, _, rfl, b, n, rfl, rfl, n0, ?_⟩⟩
    refine ⟨_, rfl, pr, _, 3, _, rfl, rfl, .of erow, atI3 .., _, rfl, b, n, rfl, rfl, dv b, _, rfl, pr, _, 3, 3, rfl, rfl, erow, rfl, ?_⟩
    exact ⟨_, rfl, fin hi (Int.emod_nonneg _ (by omega)) (Int.emod_lt_of_pos _ n0)⟩
  · rw [decide_eq_false hb]
    refine L2.iteF ?_
    refine ⟨_, rfl, pr, _, 1, _, rfl, rfl, .of erow, atI1 .., i, 1, rfl, rfl, _, rfl, pr, _, 1, 1, rfl, rfl, erow, rfl, ?_⟩
    have h1 : upd H pr (.lst ([V.ref ps, V.int i, V.int s, V.int b].set 1 (V.int (i + 1)))) pr = some (.lst [.ref ps, .int (i + 1), .int s, .int b]) := upd_same
    have sc1 : SqL K (upd H pr (.lst ([V.ref ps, V.int i, V.int s, V.int b].set 1 (V.int (i + 1))))) ps (xs.map V.int) := (rowOk (i := i + 1) (s := s) (b := b) am (by omega) fz).1.scr
    refine ⟨_, rfl, pr, _, 1, _, rfl, rfl, .of h1, atI1 .., _, rfl, pr, _, 0, _, rfl, rfl, .of h1, atI0 .., _, xs.length, rfl, .inl ⟨_, sc1, by rw [List.length_map]⟩, i + 1, xs.length, rfl, rfl, _, rfl, ?_⟩
    by_cases hx : (xs.length : Int) < i + 1
    · rw [decide_eq_true hx]
      refine L2.iteT ?_
      refine ⟨_, rfl, pr, _, 2, _, rfl, rfl, .of h1, atI2 .., s, 48271, rfl, rfl, c48 s, s * 48271, 11, rfl, rfl, .inl ⟨_, rfl, s * 48271 + 11, 2147483647, rfl, rfl, (by show (0 : Int) < 2147483647; decide), _, rfl, pr, _, 2, 2, rfl, rfl, h1, rfl, ?_⟩⟩
      rw [upd_upd]
      refine ⟨_, rfl, pr, _, 2, _, rfl, rfl, .of upd_same, atI2 .., _, 7, rfl, rfl, ⟨by decide, by decide⟩, .inl ⟨_, rfl, _, rfl, _, n, rfl, rfl, n0, ?_⟩⟩
      exact fin (by omega) (Int.emod_nonneg _ (by omega)) (Int.emod_lt_of_pos _ n0)
    · rw [decide_eq_false hx]
      refine L2.iteF ?_
      obtain ⟨z, hz⟩ : ∃ z, xs[i.toNat]? = some z := ⟨_, List.getElem?_eq_getElem (by omega)⟩
      have hz' : atI (xs.map V.int) (i + 1 - 1) = some (V.int z) := by
        have e : i + 1 - 1 = ((i.toNat : Nat) : Int) := by omega
        rw [e]
        exact atI_nat (by rw [List.getElem?_map, hz]; rfl)
      refine ⟨_, rfl, pr, _, 0, _, rfl, rfl, .of h1, atI0 .., _, rfl, pr, _, 1, _, rfl, rfl, .of h1, atI1 .., i + 1, 1, rfl, rfl, ps, _, _, _, rfl, rfl, sc1, hz', ?_⟩
      refine ⟨_, rfl, pr, _, 2, _, rfl, rfl, .of h1, atI2 .., s, 48271, rfl, rfl, c48 s, _, rfl, .inl ⟨z, rfl, s * 48271, z, rfl, rfl, s * 48271 + z, 11, rfl, rfl, .inl ⟨_, rfl, s * 48271 + z + 11, 2147483647, rfl, rfl, (by show (0 : Int) < 2147483647; decide), _, rfl, pr, _, 2, 2, rfl, rfl, h1, rfl, ?_⟩⟩⟩
      rw [upd_upd]
      refine ⟨_, rfl, 10, 18, rfl, rfl, ⟨by decide, by decide, by decide⟩, z, _, rfl, rfl, _, rfl, ?_⟩
      by_cases hc : (10 : Int) ^ (18 : Int).toNat ≤ z
      · rw [decide_eq_true hc]
        refine L2.iteT ?_
        refine ⟨_, rfl, .inl ⟨z, rfl, 10, 90, rfl, rfl, ⟨by decide, by decide, by decide⟩, z, _, rfl, rfl, (by show (0 : Int) < 10 ^ (90 : Int).toNat; decide), .inl ⟨_, rfl, _, rfl, _, n, rfl, rfl, dv _, _, rfl, pr, _, 3, 3, rfl, rfl, upd_same, rfl, ?_⟩⟩⟩
        rw [upd_upd]
        exact ⟨_, rfl, .inl ⟨z, rfl, _, rfl, z, n, rfl, rfl, n0, fin (by omega) (Int.emod_nonneg _ (by omega)) (Int.emod_lt_of_pos _ n0)⟩⟩
      · rw [decide_eq_false hc]
        refine L2.iteF ?_
        exact ⟨_, rfl, .inl ⟨z, rfl, _, rfl, z, n, rfl, rfl, n0, fin (by omega) (Int.emod_nonneg _ (by omega)) (Int.emod_lt_of_pos _ n0)⟩⟩

theorem sc_require : FnScope N_require ["is_right", "name"] (defScope st_require) := ⟨rfl, rfl, rfl, by decide +kernel, rfl, by decide +kernel, by decide +kernel⟩
theorem c_require (M : Md K mg) : Callee P w K mg base (lamTab K) (He.ga K "BadArgument") "require" 1 ["is_right", "name"] S_require := by
  obtain ⟨fd, F, hm⟩ := M.f_require
  exact callee_mk (k := 0) (t := w_require) F sc_require hm (F.binds (fun _ _ _ _ _ _ us hl => match us, hl with | [_, _], _ => rfl)) (fun ds Q E h => by unfold S_require at h; split at h <;> first | rfl | exact h.elim) (fun cdv A outer s0 H E c EX B po hT hC => ss_one (s_if (dt_not (dt_tru (ds 0))) (ss_one (s_raise B (hC ▸ M.low) (dv 1))) (ss_nil))) p_require
theorem sc_is_whole : FnScope N_is_whole ["value", "least", "most"] (defScope st_is_whole) := ⟨rfl, rfl, rfl, by decide +kernel, rfl, by decide +kernel, by decide +kernel⟩
theorem c_is_whole (M : Md K mg) : Callee P w K mg base (lamTab K) (He.ga K "BadArgument") "is_whole" 1 ["value", "least", "most"] S_is_whole := by
  obtain ⟨fd, F, hm⟩ := M.f_is_whole
  exact callee_mk (k := 0) (t := w_is_whole) F sc_is_whole hm (F.binds (fun _ _ _ _ _ _ us hl => match us, hl with | [_, _, _], _ => rfl)) (fun ds Q E h => by unfold S_is_whole at h; split at h <;> first | rfl | exact h.elim) (fun cdv A outer s0 H E c EX B po hT hC => ss_one (s_ret (de_and (de_isi .int (ds 0) rfl M.blt.isinstance rfl M.blt.int (by decide +kernel)) (de_and (de_not (de_isi .bool (ds 0) rfl M.blt.isinstance rfl M.blt.bool (by decide +kernel))) (de_one (de_chain o_le o_le (dv 1) (dv 0) (dv 2))))))) p_is_whole
theorem sc_is_row : FnScope N_is_row ["value", "least", "most"] (defScope st_is_row) := ⟨rfl, rfl, rfl, by decide +kernel, rfl, by decide +kernel, by decide +kernel⟩
theorem c_is_row (M : Md K mg) : Callee P w K mg base (lamTab K) (He.ga K "BadArgument") "is_row" 1 ["value", "least", "most"] S_is_row := by
  obtain ⟨fd, F, hm⟩ := M.f_is_row
  exact callee_mk (k := 0) (t := w_is_row) F sc_is_row hm (F.binds (fun _ _ _ _ _ _ us hl => match us, hl with | [_, _, _], _ => rfl)) (fun ds Q E h => by unfold S_is_row at h; split at h <;> first | rfl | exact h.elim) (fun cdv A outer s0 H E c EX B po hT hC => ss_one (s_ret (de_and (de_isi .tuple (ds 0) rfl M.blt.isinstance rfl M.blt.tuple (by decide +kernel)) (de_one (de_chain o_le o_le (dv 1) (de_b b_len rfl M.blt.len (by decide +kernel) (dss_cons (ds 0) (dss_nil))) (dv 2)))))) p_is_row
theorem sc_are_wholes : FnScope N_are_wholes ["value", "many", "least", "most"] (defScope st_are_wholes) := ⟨rfl, rfl, rfl, by decide +kernel, rfl, by decide +kernel, by decide +kernel⟩
theorem c_are_wholes (M : Md K mg) : Callee P w K mg base (lamTab K) (He.ga K "BadArgument") "are_wholes" 2 ["value", "many", "least", "most"] S_are_wholes := by
  obtain ⟨fd, F, hm⟩ := M.f_are_wholes
  exact callee_mk (k := 1) (t := w_are_wholes) F sc_are_wholes hm (F.binds (fun _ _ _ _ _ _ us hl => match us, hl with | [_, _, _, _], _ => rfl)) (fun ds Q E h => by unfold S_are_wholes at h; split at h <;> first | rfl | exact h.elim) (fun cdv A outer s0 H E c EX B po hT hC => ss_one (s_ret (de_and (de_callE (c_is_row M) B hT hC (by decide) (da_cons (dv 0) (da_cons (dv 1) (da_cons (dv 1) (da_nil))))) (de_one (de_b (b_all1 B.calm) rfl M.blt.all (by decide +kernel) (dss_cons (ds_d (de_fr (dl_lc (own := [("own", 4)]) B (di_seq (ds 0)) blk (fun _ _ _ _ _ => gn 4 (B.blk _ _ _ _ _).nd) (fun _ _ _ _ _ => dts_nil) (fun _ _ _ _ _ => de_callE (c_is_whole M) (B.blk _ _ _ _ _) hT hC (by decide) (da_cons (dv 4) (da_cons (dv 2) (da_cons (dv 3) (da_nil)))))))) (dss_nil))))))) p_are_wholes
theorem sc_is_table : FnScope N_is_table ["value"] (defScope st_is_table) := ⟨rfl, rfl, rfl, by decide +kernel, rfl, by decide +kernel, by decide +kernel⟩
theorem c_is_table (M : Md K mg) : Callee P w K mg base (lamTab K) (He.ga K "BadArgument") "is_table" 3 ["value"] S_is_table := by
  obtain ⟨fd, F, hm⟩ := M.f_is_table
  exact callee_mk (k := 2) (t := w_is_table) F sc_is_table hm (F.binds (fun _ _ _ _ _ _ us hl => match us, hl with | [_], _ => rfl)) (fun ds Q E h => by unfold S_is_table at h; split at h <;> first | rfl | exact h.elim) (fun cdv A outer s0 H E c EX B po hT hC => ss_cons (s_if (dt_w (dw_or (dt_not (dt_tru (ds_d (de_callE (c_is_row M) B hT hC (by decide) (da_cons (dv 0) (da_cons (de_int) (da_cons (de_glob rfl M.g_MOST_SIDE) (da_nil)))))))) (dw_or1 (dt_not (dt_tru (ds_d (de_callE (c_is_row M) B hT hC (by decide) (da_cons (de_ix (ds 0) (ds_d (de_int))) (da_cons (de_int) (da_cons (de_glob rfl M.g_MOST_SIDE) (da_nil))))))))))) (ss_one (s_ret (de_bl))) (ss_nil))
    (ss_one (s_ret (de_b (b_all1 B.calm) rfl M.blt.all (by decide +kernel) (dss_cons (ds_d (de_fr (dl_lc (own := [("row", 1)]) B (di_seq (ds 0)) blk (fun _ _ _ _ _ => gn 1 (B.blk _ _ _ _ _).nd) (fun _ _ _ _ _ => dts_nil) (fun _ _ _ _ _ => de_callE (c_are_wholes M) (B.blk _ _ _ _ _) hT hC (by decide) (da_cons (dv 1) (da_cons (de_b b_len rfl M.blt.len (by decide +kernel) (dss_cons (ds_d (de_ix (ds 0) (ds_d (de_int)))) (dss_nil))) (da_cons (de_glob rfl M.g_NONE) (da_cons (de_glob rfl M.g_MOST_WORTH) (da_nil))))))))) (dss_nil)))))) p_is_table
theorem sc_sums_of : FnScope N_sums_of ["table", "orders"] (defScope st_sums_of) := ⟨rfl, rfl, rfl, by decide +kernel, rfl, by decide +kernel, by decide +kernel⟩
theorem c_sums_of (M : Md K mg) : Callee P w K mg base (lamTab K) (He.ga K "BadArgument") "sums_of" 1 ["table", "orders"] S_sums_of := by
  obtain ⟨fd, F, hm⟩ := M.f_sums_of
  exact callee_mk (k := 0) (t := w_sums_of) F sc_sums_of hm (F.binds (fun _ _ _ _ _ _ us hl => match us, hl with | [_, _], _ => rfl)) (fun ds Q E h => by unfold S_sums_of at h; split at h <;> first | rfl | exact h.elim) (fun cdv A outer s0 H E c EX B po hT hC => ss_cons (s_sv 2 B (dn_o (dl_lst (da_cons (de_frI (dd_disp1 (de_int) (de_int))) (da_nil)))))
    (ss_cons (s_for B po (di_seq (ds_d (de_slStep (ds 0) (de_un o_neg (ds_d (de_int)))))) (gn 3 B.nd) (ss_cons (s_par2 (i := 4) (j := 5) B (dn_d (de_ix (ds 2) (ds_d (de_un o_neg (ds_d (de_int)))))) (dn_oI (dd_new)))
    (ss_cons (s_for B po (di_r1 (de_op o_shl (ds_d (de_int)) (ds_d (de_b b_len rfl M.blt.len (by decide +kernel) (dss_cons (ds_d (de_ix (ds 0) (ds_d (de_int)))) (dss_nil))))) M.blt.range) (gn 6 B.nd) (ss_one (s_if (dt_cmp (o_eq B.hu) (ds_d (de_op o_and (ds 6) (ds 1))) (ds 6)) (ss_cons (s_sv 7 B (dn_o (dl_if (dt_din B (ds 6) (ds 4)) (dl_lst (da_cons (de_dget B (ds 4) (ds 6)) (da_nil))) (dl_lst (da_nil)))))
    (ss_cons (s_for B po (di_enum (ds_d (dv 3)) M.blt.enumerate) (g_tup B (gs_cons (gn 8 B.nd) (gs_cons (gn 9 B.nd) (gs_nil)))) (ss_one (s_if (dt_w (dw_and (dt_cmp (o_eq B.hu) (ds_d (de_op o_and (ds_d (de_op o_shr (ds 6) (ds 8))) (ds_d (de_int)))) (ds_d (de_int))) (dw_and (dt_cmp o_ge (ds 9) (ds_d (de_int))) (dw_and1 (dt_din B (ds_d (de_op o_xor (ds 6) (ds_d (de_op o_shl (ds_d (de_int)) (ds 8))))) (ds 4)))))) (ss_one (s_append (i := 7) (de_op o_add (ds 9) (ds_d (de_dget B (ds 4) (ds_d (de_op o_xor (ds 6) (ds_d (de_op o_shl (ds_d (de_int)) (ds 8)))))))) B)) (ss_nil))))
    (ss_one (s_if (dt_tru (ds 7)) (ss_one (s_putI (i := 5) (dv 6) (de_b (b_max1 B.calm) rfl M.blt.max (by decide +kernel) (dss_cons (ds 7) (dss_nil))) B)) (ss_nil))))) (ss_nil))))
    (ss_one (s_append (i := 2) (dv 5) B)))))
    (ss_one (s_ret (de_fr (dl_slStep (ds 2) (de_un o_neg (ds_d (de_int))))))))) p_sums_of
theorem sc_all_orders : FnScope N_all_orders ["table"] (defScope st_all_orders) := ⟨rfl, rfl, rfl, by decide +kernel, rfl, by decide +kernel, by decide +kernel⟩
theorem c_all_orders (M : Md K mg) : Callee P w K mg base (lamTab K) (He.ga K "BadArgument") "all_orders" 1 ["table"] S_all_orders := by
  obtain ⟨fd, F, hm⟩ := M.f_all_orders
  exact callee_mk (k := 0) (t := w_all_orders) F sc_all_orders hm (F.binds (fun _ _ _ _ _ _ us hl => match us, hl with | [_], _ => rfl)) (fun ds Q E h => by unfold S_all_orders at h; split at h <;> first | rfl | exact h.elim) (fun cdv A outer s0 H E c EX B po hT hC => ss_one (s_ret (de_op o_sub (ds_d (de_op o_shl (ds_d (de_int)) (ds_d (de_b b_len rfl M.blt.len (by decide +kernel) (dss_cons (ds_d (de_ix (ds 0) (ds_d (de_int)))) (dss_nil)))))) (ds_d (de_int))))) p_all_orders
theorem sc_most_of : FnScope N_most_of ["table", "orders"] (defScope st_most_of) := ⟨rfl, rfl, rfl, by decide +kernel, rfl, by decide +kernel, by decide +kernel⟩
theorem c_most_of (M : Md K mg) : Callee P w K mg base (lamTab K) (He.ga K "BadArgument") "most_of" 2 ["table", "orders"] S_most_of := by
  obtain ⟨fd, F, hm⟩ := M.f_most_of
  exact callee_mk (k := 1) (t := w_most_of) F sc_most_of hm (F.binds (fun _ _ _ _ _ _ us hl => match us, hl with | [_, _], _ => rfl)) (fun ds Q E h => by unfold S_most_of at h; split at h <;> first | rfl | exact h.elim) (fun cdv A outer s0 H E c EX B po hT hC => ss_cons (s_sv 2 B (dn_d (de_ix (ds_d (de_callE (c_sums_of M) B hT hC (by decide) (da_cons (dv 0) (da_cons (dv 1) (da_nil))))) (ds_d (de_int)))))
    (ss_one (s_ret (de_b (b_max1 B.calm) rfl M.blt.max (by decide +kernel) (dss_cons (ds_d (de_fr (dl_lc (own := [("own", 3)]) B (di_keys (dv 2)) blk (fun _ _ _ _ _ => gn 3 (B.blk _ _ _ _ _).nd) (fun _ _ _ _ _ => dts_nil) (fun _ _ _ _ _ => de_dget (B.blk _ _ _ _ _) (ds 2) (ds 3))))) (dss_nil)))))) p_most_of
theorem sc_prices : FnScope N_prices ["table"] (defScope st_prices) := ⟨rfl, rfl, rfl, by decide +kernel, rfl, by decide +kernel, by decide +kernel⟩
theorem c_prices (M : Md K mg) : Callee P w K mg base (lamTab K) (He.ga K "BadArgument") "prices" 4 ["table"] S_prices := by
  obtain ⟨fd, F, hm⟩ := M.f_prices
  exact callee_mk (k := 3) (t := w_prices) F sc_prices hm (F.binds (fun _ _ _ _ _ _ us hl => match us, hl with | [_], _ => rfl)) (fun ds Q E h => by unfold S_prices at h; split at h <;> first | rfl | exact h.elim) (fun cdv A outer s0 H E c EX B po hT hC => ss_cons (s_expr (de_callE (c_require M) B hT hC (by decide) (da_cons (de_callE (c_is_table M) B hT hC (by decide) (da_cons (dv 0) (da_nil))) (da_cons (de_str) (da_nil)))))
    (ss_cons (s_sv 1 B (dn_d (de_callE (c_all_orders M) B hT hC (by decide) (da_cons (dv 0) (da_nil)))))
    (ss_cons (s_sv 2 B (dn_d (de_callE (c_most_of M) B hT hC (by decide) (da_cons (dv 0) (da_cons (dv 1) (da_nil))))))
    (ss_cons (s_sv 3 B (dn_d (de_fr (dl_lc (own := [("order", 5)]) B (di_r1 (de_b b_len rfl M.blt.len (by decide +kernel) (dss_cons (ds_d (de_ix (ds 0) (ds_d (de_int)))) (dss_nil))) M.blt.range) blk (fun _ _ _ _ _ => gn 5 (B.blk _ _ _ _ _).nd) (fun _ _ _ _ _ => dts_nil) (fun _ _ _ _ _ => de_op o_sub (ds 2) (ds_d (de_callE (c_most_of M) (B.blk _ _ _ _ _) hT hC (by decide) (da_cons (dv 0) (da_cons (de_op o_xor (ds 1) (ds_d (de_op o_shl (ds_d (de_int)) (ds 5)))) (da_nil))))))))))
    (ss_cons (s_setLc (own := [("row", 6)]) false B rfl rfl (sw_true rfl rfl rfl (by first | rfl | kernel_rfl)) (di_seq (ds 0)) blk (fun _ _ _ _ _ => gn 6 (B.blk _ _ _ _ _).nd) (fun _ _ _ _ _ => dts_nil) (fun _ _ _ _ _ => de_b (b_max1 (B.blk _ _ _ _ _).calm) rfl M.blt.max (by decide +kernel) (dss_cons (ds_d (de_fr (dl_op o_cat (ds_d (de_fr (dl_lst (da_cons (de_int) (da_nil))))) (ds_d (de_fr (dl_lc (own := [("own", 7), ("price", 8)]) (B.blk _ _ _ _ _) (di_zip (ds 6) (ds 3) M.blt.zip) blk (fun _ _ _ _ _ => g_tup ((B.blk _ _ _ _ _).blk _ _ _ _ _) (gs_cons (gn 7 ((B.blk _ _ _ _ _).blk _ _ _ _ _).nd) (gs_cons (gn 8 ((B.blk _ _ _ _ _).blk _ _ _ _ _).nd) (gs_nil)))) (fun _ _ _ _ _ => dts_one (dt_cmp o_ge (ds 7) (ds_d (de_int)))) (fun _ _ _ _ _ => de_op o_sub (ds 7) (ds 8)))))))) (dss_nil))))
    (ss_one (s_ret (de_tup (da_cons (de_bTy b_tuple1 rfl M.blt.tuple (by decide +kernel) (dss_cons (ds 4) (dss_nil))) (da_cons (de_bTy b_tuple1 rfl M.blt.tuple (by decide +kernel) (dss_cons (ds 3) (dss_nil))) (da_nil))))))))))) p_prices
theorem sc_is_prices : FnScope N_is_prices ["table", "value"] (defScope st_is_prices) := ⟨rfl, rfl, rfl, by decide +kernel, rfl, by decide +kernel, by decide +kernel⟩
theorem c_is_prices (M : Md K mg) : Callee P w K mg base (lamTab K) (He.ga K "BadArgument") "is_prices" 4 ["table", "value"] S_is_prices := by
  obtain ⟨fd, F, hm⟩ := M.f_is_prices
  exact callee_mk (k := 3) (t := w_is_prices) F sc_is_prices hm (F.binds (fun _ _ _ _ _ _ us hl => match us, hl with | [_, _], _ => rfl)) (fun ds Q E h => by unfold S_is_prices at h; split at h <;> first | rfl | exact h.elim) (fun cdv A outer s0 H E c EX B po hT hC => ss_cons (s_expr (de_callE (c_require M) B hT hC (by decide) (da_cons (de_callE (c_is_table M) B hT hC (by decide) (da_cons (dv 0) (da_nil))) (da_cons (de_str) (da_nil)))))
    (ss_cons (s_if (dt_w (dw_or (dt_not (dt_tru (ds_d (de_callE (c_is_row M) B hT hC (by decide) (da_cons (dv 1) (da_cons (de_int) (da_cons (de_int) (da_nil)))))))) (dw_or1 (dt_not (dt_tru (ds_d (de_callE (c_are_wholes M) B hT hC (by decide) (da_cons (de_ix (ds 1) (ds_d (de_int))) (da_cons (de_b b_len rfl M.blt.len (by decide +kernel) (dss_cons (ds 0) (dss_nil))) (da_cons (de_int) (da_cons (de_glob rfl M.g_MOST_WORTH) (da_nil)))))))))))) (ss_one (s_ret (de_bl))) (ss_nil))
    (ss_cons (s_if (dt_not (dt_tru (ds_d (de_callE (c_are_wholes M) B hT hC (by decide) (da_cons (de_ix (ds 1) (ds_d (de_int))) (da_cons (de_b b_len rfl M.blt.len (by decide +kernel) (dss_cons (ds_d (de_ix (ds 0) (ds_d (de_int)))) (dss_nil))) (da_cons (de_int) (da_cons (de_glob rfl M.g_MOST_WORTH) (da_nil))))))))) (ss_one (s_ret (de_bl))) (ss_nil))
    (ss_cons (s_for B po (di_zip (ds_d (dv 0)) (ds_d (de_ix (ds 1) (ds_d (de_int)))) M.blt.zip) (g_tup B (gs_cons (gn 2 B.nd) (gs_cons (gn 3 B.nd) (gs_nil)))) (ss_one (s_if (dt_tru (ds_d (de_b (b_any1 B.calm) rfl M.blt.any (by decide +kernel) (dss_cons (ds_d (de_fr (dl_lc (own := [("own", 4), ("order", 5)]) B (di_zip (ds 2) (ds_d (de_ix (ds 1) (ds_d (de_int)))) M.blt.zip) blk (fun _ _ _ _ _ => g_tup (B.blk _ _ _ _ _) (gs_cons (gn 4 (B.blk _ _ _ _ _).nd) (gs_cons (gn 5 (B.blk _ _ _ _ _).nd) (gs_nil)))) (fun _ _ _ _ _ => dts_nil) (fun _ _ _ _ _ => de_cmp o_gt (ds 4) (ds_d (de_op o_add (ds 3) (ds 5))))))) (dss_nil))))) (ss_one (s_ret (de_bl))) (ss_nil))))
    (ss_one (s_ret (de_bl))))))) p_is_prices
theorem kw_is_prices_1 (M : Md K mg) : KwB K mg "is_prices" ["table", "value"] 1 := by
  obtain ⟨fd, F, hm⟩ := M.f_is_prices
  exact kwb_mk F hm (fun _ _ _ _ _ _ us ws l1 l2 => match us, l1, ws, l2 with | [_], _, [_], _ => rfl)
theorem sc__law_pick : FnScope N__law_pick ["row", "some"] (defScope st__law_pick) := ⟨rfl, rfl, rfl, by decide +kernel, rfl, by decide +kernel, by decide +kernel⟩
theorem c__law_pick (M : Md K mg) : Callee P w K mg base (lamTab K) (He.ga K "BadArgument") "_law_pick" 2 ["row", "some"] S__law_pick := by
  obtain ⟨fd, F, hm⟩ := M.f__law_pick
  exact callee_mk (k := 1) (t := w__law_pick) F sc__law_pick hm (F.binds (fun _ _ _ _ _ _ us hl => match us, hl with | [_, _], _ => rfl)) (fun ds Q E h => by unfold S__law_pick at h; split at h <;> first | rfl | exact h.elim) (fun cdv A outer s0 H E c EX B po hT hC => ss_one (s_ret (de_ix (ds 1) (ds_d (de_callE (c__law_taken M) B hT hC (by decide) (da_cons (dv 0) (da_cons (de_b b_len rfl M.blt.len (by decide +kernel) (dss_cons (ds 1) (dss_nil))) (da_nil)))))))) p__law_pick
theorem cv__law_pick (M : Md K mg) : CalleeV P w K mg base "_law_pick" 2 ["row", "some"] (pickSp K (lamTab K)) := by
  obtain ⟨fd, F, hm⟩ := M.f__law_pick
  obtain ⟨f2, fd2, FN, hm2, hk2, hb2, _⟩ := (c__law_taken (P := P) (w := w) (base := base) M).ex
  have m := M.blt
  refine ⟨_, fd, F.okX sc__law_pick (fun vs H Q E ⟨pr, ps, xs, l, us, e, _⟩ => by rw [e]; rfl) (fun cdv A outer s0 H vs Q E hr ⟨pr, ps, xs, l, us, e, am, hl, nl, ne, lu, hq⟩ => ?_), hm, F.kp, F.binds (fun _ _ _ _ _ _ us hl => match us, hl with | [_, _], _ => rfl)⟩
  have B : Ctx (cxOf (L2.CX P w) P w K mg base ["row", "some"] "_law_pick" (defScope st__law_pick) (He.ga K "_law_pick") cdv A outer s0 H E) ⟨K, lamTab K, He.ga K "BadArgument", pr, ps, xs, H, fun _ => none⟩ (fun _ => False) 1 := ⟨rfl, rfl, sc__law_pick.nd, hr, tk_none⟩
  refine ⟨_, pss_one (ps_ret (pe_ix ix_list (pv 1) (pe_call FN hr rfl hm2 hk2 hb2 .nil B.px (pa_cons (pv 0) (pa_cons (pe_callB call_len rfl m.len (by decide +kernel) (pa_cons (pv 1) pa_nil)) pa_nil))) (fun _ _ => rfl))), ?_⟩
  subst e
  have ul : 0 < us.length := List.length_pos_iff.mpr ne
  refine ⟨.ref l, rfl, .ref pr, rfl, .ref l, rfl, .ref l, us.length, rfl, .inl ⟨_, .of hl, rfl⟩, pr, ps, xs, fun _ => none, [.row, .int us.length], fun d => ∃ v : Int, d = .int v ∧ 0 ≤ v ∧ v < us.length, fun _ => False, am, ⟨fun _ _ z => (by cases z), rfl, fun _ _ z => by cases z⟩, ⟨_, _, rfl, rfl, _, _, rfl, rfl, rfl⟩, taken_e (by omega) (by omega) fun v v0 v1 => ⟨v, rfl, v0, v1⟩, fun d v F' H' ⟨z, e, z0, z1⟩ kp am' fz' gr rv => ?_, fun nm dd H' f => f.elim⟩
  subst e
  have ev : v = .int z := rv
  subst ev
  obtain ⟨x, hx⟩ : ∃ x, us[z.toNat]? = some x := ⟨_, List.getElem?_eq_getElem (by omega)⟩
  refine ⟨l, us, z, x, rfl, rfl, .of (kp.kp l _ hl nl lst_nt), ?_, hq x (List.mem_of_getElem? hx) H' kp am'⟩
  have := atI_nat hx
  rwa [Int.toNat_of_nonneg z0] at this

theorem sc__law_alike : FnScope N__law_alike ["found", "due"] (defScope st__law_alike) := ⟨rfl, rfl, rfl, by decide +kernel, rfl, by decide +kernel, by decide +kernel⟩
theorem c__law_alike (M : Md K mg) : ∀ n : Nat, Callee P w K mg base (lamTab K) (He.ga K "BadArgument") "_law_alike" (n + 1) ["found", "due"] (S__law_alike n)
  | 0 => by
    obtain ⟨fd, F, hm⟩ := M.f__law_alike
    exact callee_no F sc__law_alike hm (F.binds (fun _ _ _ _ _ _ us hl => match us, hl with | [_, _], _ => rfl)) (fun ds Q E h => h)
  | n + 1 => by
    obtain ⟨fd, F, hm⟩ := M.f__law_alike
    have IH : Callee P w K mg base (lamTab K) (He.ga K "BadArgument") "_law_alike" (n + 1) ["found", "due"] (S__law_alike n) := c__law_alike M n
    exact callee_mk (k := n + 1) (t := w__law_alike (S__law_alike n)) F sc__law_alike hm (F.binds (fun _ _ _ _ _ _ us hl => match us, hl with | [_, _], _ => rfl)) (l__law_alike n) (fun cdv A outer s0 H E c EX B po hT hC => ss_cons (s_if (dt_tru (ds_d (de_isi .tuple (ds 1) rfl M.blt.isinstance rfl M.blt.tuple (by decide +kernel)))) (ss_cons (s_if (dt_w (dw_or (dt_not (dt_tru (ds_d (de_isi .tuple (ds 0) rfl M.blt.isinstance rfl M.blt.tuple (by decide +kernel))))) (dw_or1 (dt_cmp (o_ne B.hu) (ds_d (de_b b_len rfl M.blt.len (by decide +kernel) (dss_cons (ds 0) (dss_nil)))) (ds_d (de_b b_len rfl M.blt.len (by decide +kernel) (dss_cons (ds 1) (dss_nil)))))))) (ss_one (s_ret (de_bl))) (ss_nil))
    (ss_one (s_ret (de_cmp (o_eq B.hu) (ds_d (de_fr (dl_lc (own := [("at", 2)]) B (di_r1 (de_b b_len rfl M.blt.len (by decide +kernel) (dss_cons (ds 1) (dss_nil))) M.blt.range) blk (fun _ _ _ _ _ => gn 2 (B.blk _ _ _ _ _).nd) (fun _ _ _ _ _ => dts_one (dt_not (dt_tru (ds_d (de_callE (IH) (B.blk _ _ _ _ _) hT hC (Nat.le_refl _) (da_cons (de_ix (ds 0) (ds 2)) (da_cons (de_ix (ds 1) (ds 2)) (da_nil)))))))) (fun _ _ _ _ _ => dv 2)))) (ds_d (de_fr (dl_lst (da_nil)))))))) (ss_nil))
    (ss_cons (s_if (dt_w (dw_or (dt_cmp o_is (ds 1) (ds_d (de_non))) (dw_or1 (dt_tru (ds_d (de_isi .str (ds 1) rfl M.blt.isinstance rfl M.blt.str (by decide +kernel))))))) (ss_one (s_ret (de_and (de_cmp (o_eq B.hu) (ds 0) (ds 1)) (de_one (de_cmp (o_eq B.hu) (ds_d (de_isi .str (ds 0) rfl M.blt.isinstance rfl M.blt.str (by decide +kernel))) (ds_d (de_isi .str (ds 1) rfl M.blt.isinstance rfl M.blt.str (by decide +kernel)))))))) (ss_nil))
    (ss_one (s_ret (de_and (de_isi .int (ds 0) rfl M.blt.isinstance rfl M.blt.int (by decide +kernel)) (de_and (de_cmp (o_eq B.hu) (ds_d (de_isi .bool (ds 0) rfl M.blt.isinstance rfl M.blt.bool (by decide +kernel))) (ds_d (de_isi .bool (ds 1) rfl M.blt.isinstance rfl M.blt.bool (by decide +kernel)))) (de_one (de_cmp (o_eq B.hu) (ds 0) (ds 1))))))))) (p__law_alike n)
theorem sc__law_table : FnScope N__law_table ["row"] (defScope st__law_table) := ⟨rfl, rfl, rfl, by decide +kernel, rfl, by decide +kernel, by decide +kernel⟩
theorem c__law_table (M : Md K mg) : Callee P w K mg base (lamTab K) (He.ga K "BadArgument") "_law_table" 3 ["row"] S__law_table := by
  obtain ⟨fd, F, hm⟩ := M.f__law_table
  exact callee_mk (k := 2) (t := w__law_table) F sc__law_table hm (F.binds (fun _ _ _ _ _ _ us hl => match us, hl with | [_], _ => rfl)) (fun ds Q E h => by unfold S__law_table at h; split at h <;> first | rfl | exact h.elim) (fun cdv A outer s0 H E c EX B po hT hC => ss_cons (s_asg (de_tup (da_cons (de_op o_add (ds_d (de_int)) (ds_d (de_callE (c__law_taken M) B hT hC (by decide) (da_cons (dv 0) (da_cons (de_int) (da_nil)))))) (da_cons (de_callE (c__law_taken M) B hT hC (by decide) (da_cons (dv 0) (da_cons (de_int) (da_nil)))) (da_cons (de_callE (c__law_pick M) B hT hC (by decide) (da_cons (dv 0) (da_cons (de_fr (dl_lst (da_cons (de_int) (da_cons (de_int) (da_cons (de_int) (da_nil)))))) (da_nil)))) (da_nil))))) (g_tup B (gs_cons (gn 1 B.nd) (gs_cons (gn 2 B.nd) (gs_cons (gn 3 B.nd) (gs_nil))))))
    (ss_cons (s_sv 4 B (dn_o (dl_lst (da_nil))))
    (ss_cons (s_for B po (di_r1 (de_op o_add (ds_d (de_int)) (ds_d (de_callE (c__law_taken M) B hT hC (by decide) (da_cons (dv 0) (da_cons (de_int) (da_nil)))))) M.blt.range) (gn 5 B.nd) (ss_one (s_append (i := 4) (de_bTy b_tuple1 rfl M.blt.tuple (by decide +kernel) (dss_cons (ds_d (de_fr (dl_lc (own := [("order", 6)]) B (di_r1 (dv 1) M.blt.range) blk (fun _ _ _ _ _ => gn 6 (B.blk _ _ _ _ _).nd) (fun _ _ _ _ _ => dts_nil) (fun _ _ _ _ _ => de_if (dt_cmp o_lt (ds_d (de_callE (c__law_taken M) (B.blk _ _ _ _ _) hT hC (by decide) (da_cons (dv 0) (da_cons (de_int) (da_nil))))) (ds 2)) (de_un o_neg (ds_d (de_int))) (de_callE (c__law_taken M) (B.blk _ _ _ _ _) hT hC (by decide) (da_cons (dv 0) (da_cons (dv 3) (da_nil)))))))) (dss_nil))) B)))
    (ss_one (s_ret (de_bTy b_tuple1 rfl M.blt.tuple (by decide +kernel) (dss_cons (ds 4) (dss_nil)))))))) p__law_table
theorem sc__law_most : FnScope N__law_most ["table"] (defScope st__law_most) := ⟨rfl, rfl, rfl, by decide +kernel, rfl, by decide +kernel, by decide +kernel⟩
theorem c__law_most (M : Md K mg) : Callee P w K mg base (lamTab K) (He.ga K "BadArgument") "_law_most" 1 ["table"] S__law_most := by
  obtain ⟨fd, F, hm⟩ := M.f__law_most
  exact callee_mk (k := 0) (t := w__law_most) F sc__law_most hm (F.binds (fun _ _ _ _ _ _ us hl => match us, hl with | [_], _ => rfl)) (fun ds Q E h => by unfold S__law_most at h; split at h <;> first | rfl | exact h.elim) (fun cdv A outer s0 H E c EX B po hT hC => ss_cons (s_sv 1 B (dn_d (de_frI (dd_disp1 (de_int) (de_int)))))
    (ss_cons (s_for B po (di_seq (ds_d (dv 0))) (gn 2 B.nd) (ss_cons (s_sv 3 B (dn_oI (dd_copy (ds 1) M.blt.dict)))
    (ss_cons (s_for B po (di_keys (dv 1)) (gn 4 B.nd) (ss_one (s_for B po (di_r1 (de_b b_len rfl M.blt.len (by decide +kernel) (dss_cons (ds 2) (dss_nil))) M.blt.range) (gn 5 B.nd) (ss_one (s_if (dt_w (dw_and (dt_cmp (o_eq B.hu) (ds_d (de_op o_and (ds_d (de_op o_shr (ds 4) (ds 5))) (ds_d (de_int)))) (ds_d (de_int))) (dw_and1 (dt_cmp o_ge (ds_d (de_ix (ds 2) (ds 5))) (ds_d (de_int)))))) (ss_cons (s_sv 6 B (dn_d (de_op o_or (ds 4) (ds_d (de_op o_shl (ds_d (de_int)) (ds 5))))))
    (ss_one (s_putI (i := 3) (dv 6) (de_b (b_max2 B.calm) rfl M.blt.max (by decide +kernel) (dss_cons (ds_d (de_get B (ds 3) (ds 6) (de_int))) (dss_cons (ds_d (de_op o_add (ds_d (de_dget B (ds 1) (ds 4))) (ds_d (de_ix (ds 2) (ds 5))))) (dss_nil)))) B))) (ss_nil))))))
    (ss_one (s_sv 1 B (dn_d (dv 3)))))))
    (ss_one (s_ret (de_b (b_max1 B.calm) rfl M.blt.max (by decide +kernel) (dss_cons (ds_d (de_fr (dl_lc (own := [("own", 4)]) B (di_keys (dv 1)) blk (fun _ _ _ _ _ => gn 4 (B.blk _ _ _ _ _).nd) (fun _ _ _ _ _ => dts_nil) (fun _ _ _ _ _ => de_dget (B.blk _ _ _ _ _) (ds 1) (ds 4))))) (dss_nil))))))) p__law_most
theorem sc__law_fine : FnScope N__law_fine ["table", "logs", "orders"] (defScope st__law_fine) := ⟨rfl, rfl, rfl, by decide +kernel, rfl, by decide +kernel, by decide +kernel⟩
theorem c__law_fine (M : Md K mg) : Callee P w K mg base (lamTab K) (He.ga K "BadArgument") "_law_fine" 1 ["table", "logs", "orders"] S__law_fine := by
  obtain ⟨fd, F, hm⟩ := M.f__law_fine
  exact callee_mk (k := 0) (t := w__law_fine) F sc__law_fine hm (F.binds (fun _ _ _ _ _ _ us hl => match us, hl with | [_, _, _], _ => rfl)) (fun ds Q E h => by unfold S__law_fine at h; split at h <;> first | rfl | exact h.elim) (fun cdv A outer s0 H E c EX B po hT hC => ss_cons (s_if (dt_cmp (o_ne B.hu) (ds_d (de_fr (dl_lc (own := [("own", 4)]) B (di_seq (ds_d (de_fr (dl_op o_cat (ds_d (de_fr (dl_bTy b_list1 rfl M.blt.list (by decide +kernel) (dss_cons (ds 1) (dss_nil))))) (ds_d (de_fr (dl_bTy b_list1 rfl M.blt.list (by decide +kernel) (dss_cons (ds 2) (dss_nil))))))))) blk (fun _ _ _ _ _ => gn 4 (B.blk _ _ _ _ _).nd) (fun _ _ _ _ _ => dts_one (dt_w (dw_or (dt_cmp o_lt (ds 4) (ds_d (de_int))) (dw_or1 (dt_cmp o_gt (ds 4) (ds_d (de_int))))))) (fun _ _ _ _ _ => dv 4)))) (ds_d (de_fr (dl_lst (da_nil))))) (ss_one (s_ret (de_bl))) (ss_nil))
    (ss_cons (s_for B po (di_r1 (de_b b_len rfl M.blt.len (by decide +kernel) (dss_cons (ds 0) (dss_nil))) M.blt.range) (gn 3 B.nd) (ss_one (s_if (dt_cmp (o_ne B.hu) (ds_d (de_fr (dl_lc (own := [("order", 5)]) B (di_r1 (de_b b_len rfl M.blt.len (by decide +kernel) (dss_cons (ds 2) (dss_nil))) M.blt.range) blk (fun _ _ _ _ _ => gn 5 (B.blk _ _ _ _ _).nd) (fun _ _ _ _ _ => dts_one (dt_cmp o_gt (ds_d (de_ix (ds_d (de_ix (ds 0) (ds 3))) (ds 5))) (ds_d (de_op o_add (ds_d (de_ix (ds 1) (ds 3))) (ds_d (de_ix (ds 2) (ds 5))))))) (fun _ _ _ _ _ => de_int)))) (ds_d (de_fr (dl_lst (da_nil))))) (ss_one (s_ret (de_bl))) (ss_nil))))
    (ss_one (s_ret (de_bl))))) p__law_fine
theorem sc__law_case : FnScope N__law_case ["row"] (defScope st__law_case) := ⟨rfl, rfl, rfl, by decide +kernel, rfl, by decide +kernel, by decide +kernel⟩

theorem c__law_case (M : Md K mg) (RR : ∀ fd, Fun K "_law_case" "_law_case" st__law_case (He.ga K "_law_case") fd → RefTxt P w K mg base (lamTab K) (He.ga K "BadArgument") fd.code "_law_case.<locals>.") : Callee P w K mg base (lamTab K) (He.ga K "BadArgument") "_law_case" 7 ["row"] S__law_case := by
  obtain ⟨fd, F, hm⟩ := M.f__law_case
  have RT := RR fd F
  exact callee_mkC (k := 6) (t := w__law_case) F sc__law_case hm (F.binds (fun _ _ _ _ _ _ us hl => match us, hl with | [_], _ => rfl)) (fun ds Q E h => by unfold S__law_case at h; split at h <;> first | rfl | exact h.elim) (fun cdv A outer s0 H E c EX hcd B po hT hC => ss_cons (s_sv 1 B (dn_d (de_callE (c__law_table M) B hT hC (by decide) (da_cons (dv 0) (da_nil)))))
    (ss_cons (s_asg (de_callE (c_prices M) B hT hC (by decide) (da_cons (dv 1) (da_nil))) (g_tup B (gs_cons (gn 2 B.nd) (gs_cons (gn 3 B.nd) (gs_nil)))))
    (ss_cons (s_if (dt_w (dw_or (dt_not (dt_tru (ds_d (de_isi .tuple (ds 2) rfl M.blt.isinstance rfl M.blt.tuple (by decide +kernel))))) (dw_or (dt_not (dt_tru (ds_d (de_isi .tuple (ds 3) rfl M.blt.isinstance rfl M.blt.tuple (by decide +kernel))))) (dw_or (dt_cmp (o_ne B.hu) (ds_d (de_b b_len rfl M.blt.len (by decide +kernel) (dss_cons (ds 2) (dss_nil)))) (ds_d (de_b b_len rfl M.blt.len (by decide +kernel) (dss_cons (ds 1) (dss_nil))))) (dw_or1 (dt_cmp (o_ne B.hu) (ds_d (de_b b_len rfl M.blt.len (by decide +kernel) (dss_cons (ds 3) (dss_nil)))) (ds_d (de_b b_len rfl M.blt.len (by decide +kernel) (dss_cons (ds_d (de_ix (ds 1) (ds_d (de_int)))) (dss_nil)))))))))) (ss_one (s_ret (de_bl))) (ss_nil))
    (ss_cons (s_if (dt_w (dw_or (dt_not (dt_tru (ds_d (de_callE (c__law_fine M) B hT hC (by decide) (da_cons (dv 1) (da_cons (dv 2) (da_cons (dv 3) (da_nil)))))))) (dw_or (dt_cmp (o_ne B.hu) (ds_d (de_op o_add (ds_d (de_b (b_sumT B.calm) rfl M.blt.sum (by decide +kernel) (dss_cons (ds 2) (dss_nil)))) (ds_d (de_b (b_sumT B.calm) rfl M.blt.sum (by decide +kernel) (dss_cons (ds 3) (dss_nil)))))) (ds_d (de_callE (c__law_most M) B hT hC (by decide) (da_cons (dv 1) (da_nil))))) (dw_or1 (dt_not (dt_tru (ds_d (de_callE (c_is_prices M) B hT hC (by decide) (da_cons (dv 1) (da_cons (de_tup (da_cons (dv 2) (da_cons (dv 3) (da_nil)))) (da_nil))))))))))) (ss_one (s_ret (de_bl))) (ss_nil))
    (ss_cons (s_for B po (di_r1 (de_int) M.blt.range) (gn 4 B.nd) (ss_cons (s_par2 (i := 5) (j := 6) B (dn_o (dl_bTy b_list1 rfl M.blt.list (by decide +kernel) (dss_cons (ds 2) (dss_nil)))) (dn_o (dl_bTy b_list1 rfl M.blt.list (by decide +kernel) (dss_cons (ds 3) (dss_nil)))))
    (ss_pick3 (r0 := 0) (i1 := 5) (i2 := 6) (s := 7) (a := 8) (cv__law_pick M) B hT (by decide) (de_callE (c__law_taken M) B hT hC (by decide) (da_cons (dv 0) (da_cons (de_b b_len rfl M.blt.len (by decide +kernel) (dss_cons (ds 7) (dss_nil))) (da_nil)))) (de_op o_sub (ds_d (de_op o_add (ds_d (de_ix (ds 7) (ds 8))) (ds_d (de_callE (c__law_taken M) B hT hC (by decide) (da_cons (dv 0) (da_cons (de_int) (da_nil))))))) (ds_d (de_int))) (ss_cons (s_if (dt_cmp (o_eq B.hu) (ds_d (de_callE (c__law_taken M) B hT hC (by decide) (da_cons (dv 0) (da_cons (de_int) (da_nil))))) (ds_d (de_int))) (ss_one (s_par2 (i := 5) (j := 6) B (dn_o (dl_lc (own := [("own", 13)]) B (di_seq (ds 5)) blk (fun _ _ _ _ _ => gn 13 (B.blk _ _ _ _ _).nd) (fun _ _ _ _ _ => dts_nil) (fun _ _ _ _ _ => de_b (b_max2 (B.blk _ _ _ _ _).calm) rfl M.blt.max (by decide +kernel) (dss_cons (ds_d (de_int)) (dss_cons (ds_d (de_op o_sub (ds 13) (ds_d (de_int)))) (dss_nil)))))) (dn_o (dl_lc (own := [("own", 13)]) B (di_seq (ds 6)) blk (fun _ _ _ _ _ => gn 13 (B.blk _ _ _ _ _).nd) (fun _ _ _ _ _ => dts_nil) (fun _ _ _ _ _ => de_op o_add (ds 13) (ds_d (de_int))))))) (ss_nil))
    (ss_one (s_if (dt_cmp o_isn (ds_d (de_callK (n := 1) (m := 1) (c_is_prices M) (kw_is_prices_1 M) B hT hC (by decide) (da_cons (dv 1) (da_nil)) (dk_cons (de_tup (da_cons (de_bTy b_tuple1 rfl M.blt.tuple (by decide +kernel) (dss_cons (ds 5) (dss_nil))) (da_cons (de_bTy b_tuple1 rfl M.blt.tuple (by decide +kernel) (dss_cons (ds 6) (dss_nil))) (da_nil)))) (dk_nil)))) (ds_d (de_callE (c__law_fine M) B hT hC (by decide) (da_cons (dv 1) (da_cons (dv 5) (da_cons (dv 6) (da_nil))))))) (ss_one (s_ret (de_bl))) (ss_nil)))))))
    (ss_cons (s_sv 9 B (dn_d (de_tup (da_cons (de_non) (da_cons (de_tup (da_cons (dv 2) (da_nil))) (da_cons (de_fr (dl_lst (da_cons (dv 2) (da_cons (dv 3) (da_nil))))) (da_cons (de_tup (da_cons (de_op o_add (ds 2) (ds_d (de_tup (da_cons (de_int) (da_nil))))) (da_cons (dv 3) (da_nil)))) (da_cons (de_tup (da_cons (dv 2) (da_cons (de_fr (dl_bTy b_list1 rfl M.blt.list (by decide +kernel) (dss_cons (ds 3) (dss_nil)))) (da_nil)))) (da_cons (de_tup (da_cons (dv 2) (da_cons (de_op o_mul2 (ds_d (de_tup (da_cons (de_bl) (da_nil)))) (ds_d (de_b b_len rfl M.blt.len (by decide +kernel) (dss_cons (ds 3) (dss_nil))))) (da_nil)))) (da_nil))))))))))
    (ss_cons (s_setLc (own := [("value", 14)]) false B rfl rfl (sw_true rfl rfl rfl (by first | rfl | kernel_rfl)) (di_seq (ds 9)) blk (fun _ _ _ _ _ => gn 14 (B.blk _ _ _ _ _).nd) (fun _ _ _ _ _ => dts_nil) (fun _ _ _ _ _ => de_callE (c_is_prices M) (B.blk _ _ _ _ _) hT hC (by decide) (da_cons (dv 1) (da_cons (dv 14) (da_nil)))))
    (ss_cons (s_sv 11 B (dn_d (de_callE (c__law_pick M) B hT hC (by decide) (da_cons (dv 0) (da_cons (de_fr (dl_lst (da_cons (de_non) (da_cons (de_tup (da_nil)) (da_cons (de_tup (da_cons (de_tup (da_nil)) (da_nil))) (da_cons (de_tup (da_cons (de_tup (da_cons (de_int) (da_nil))) (da_cons (de_tup (da_cons (de_int) (da_cons (de_int) (da_nil)))) (da_nil)))) (da_cons (de_tup (da_cons (de_tup (da_cons (de_un o_neg (ds_d (de_int))) (da_nil))) (da_nil))) (da_cons (de_tup (da_cons (de_tup (da_cons (de_int) (da_nil))) (da_nil))) (da_cons (de_fr (dl_lst (da_cons (de_tup (da_cons (de_int) (da_nil))) (da_nil)))) (da_cons (de_tup (da_cons (de_tup (da_cons (de_bl) (da_nil))) (da_nil))) (da_nil))))))))))) (da_nil))))))
    (ss_cons (s_sv 12 B (dn_d (de_fr (dl_lst (da_cons (de_refE (j := 4) RT B hT hC hcd (by decide) (fun _ _ _ _ _ _ _ _ EX2 B2 e1 e2 => de_callE (c_prices M) B2 e1 e2 (by decide) (da_cons (dv 11) (da_nil)))) (da_cons (de_refE (j := 4) RT B hT hC hcd (by decide) (fun _ _ _ _ _ _ _ _ EX2 B2 e1 e2 => de_callE (c_is_prices M) B2 e1 e2 (by decide) (da_cons (dv 11) (da_cons (de_tup (da_nil)) (da_nil))))) (da_nil)))))))
    (ss_one (s_ret (de_and (de_cmp (o_eq B.hu) (ds 10) (ds_d (de_fr (dl_op o_rep (ds_d (de_fr (dl_lst (da_cons (de_bl) (da_nil))))) (ds_d (de_int)))))) (de_one (de_cmp (o_eq B.hu) (ds 12) (ds_d (de_fr (dl_op o_rep (ds_d (de_fr (dl_lst (da_cons (de_str) (da_nil))))) (ds_d (de_int))))))))))))))))))) p__law_case
end
end DL

set_option Elab.async false
set_option linter.all false
set_option maxRecDepth 100000
set_option maxHeartbeats 4000000

namespace DL
open PySem PySem.Spec PyProof.Rows L2
/-! the law's own def -/
theorem PSs.ex {X : Cx} {ι : Type} {e : List Stmt} {h : ι → Prop} {t : ι → TS} (p : ∀ i, h i → PSs X e (t i)) : PSs X e (fun D σ H => ∃ i, h i ∧ t i D σ H) := ⟨fun pins s σ H D I ⟨i, hi, q⟩ => (p i hi).run pins s σ H D I q⟩
def lawSp (K : PySem.W.Frag) (T : List (Addr × Str)) : Sp := fun vs H Q _ => ∃ (a : Addr) (ns : List Int), vs = [.ref a] ∧ SqL K H a (ns.map V.int) ∧ LamX.Tabs T H ∧ ∀ H', Q (.bl true) H'
def w_law (EX : Str → Prop) (N : Int) : WS := sSeq (sFor (iR1 (wC (.int N))) (bName 2) (sIf (tNot (tTru (wD (wCall S__law_case EX (wAs (wVar 1) wA0))))) (sRet (wC (.bl false))) sNext)) (sRet (wC (.bl true)))
theorem law_case_e {Q : D → Prop} {E : Str → Prop} (h : Q (.bl true)) : S__law_case [.row] Q E := h
theorem law_loop {EX : Str → Prop} {E : En} (h : ∀ S, E.nx S) : ∀ (xs : List D) (d : SV), forD (bName 2) (sIf (tNot (tTru (wD (wCall S__law_case EX (wAs (wVar 1) wA0))))) (sRet (wC (.bl false))) sNext) E xs [.un, .dat .row, d]
  | [], d => h _
  | x :: xs, d => law_loop h xs _
section
variable {P : Program} {w : World} {K : PySem.W.Frag} {mg : Str → Option Value} {base : Heap} {T : List (Addr × Str)} {CB : Addr}
theorem sc_law : FnScope ["script", "row", "turn"] ["script"] (defScope st_law) := ⟨rfl, rfl, rfl, by decide +kernel, rfl, by decide +kernel, by decide +kernel⟩
theorem ok_law {f : Addr} {fd : FuncData} {k : Nat} (m : Blt mg) (F : Fun K "law" "law" st_law f fd) (C : Callee P w K mg base T CB "_law_case" k ["row"] S__law_case) : FnOk P w K mg base (L2.CX P w) (k + 1) f fd ["script"] (lawSp K T) := by
  refine F.okX sc_law (fun vs H Q E ⟨a, ns, e, _⟩ => by rw [e]; rfl) (fun cdv A outer s0 H vs Q E hr h => ⟨_, pss_cons (ps_set (i := 1) sc_law.nd rfl (.inl rfl) (pe_lst (pa_cons (pv 0) (pa_cons pe_int (pa_cons pe_int (pa_cons pe_int pa_nil)))))) (PSs.ex (h := fun c : Cd => c.K = K ∧ c.T = T ∧ c.CB = CB) (t := fun c => LS c (w_law (fun _ => False) 5)) fun c hc => ?_), ?_⟩)
  · obtain ⟨h1, h2, h3⟩ := hc
    subst h1 h2 h3
    have B : Ctx (cxOf (L2.CX P w) P w c.K mg base ["script", "row", "turn"] "law" (defScope st_law) f cdv A outer s0 H E) c (fun _ => False) k := ⟨rfl, rfl, sc_law.nd, hr, tk_none⟩
    have po : PassesOwn (model P w) (cxOf (L2.CX P w) P w c.K mg base ["script", "row", "turn"] "law" (defScope st_law) f cdv A outer s0 H E).A (cxOf (L2.CX P w) P w c.K mg base ["script", "row", "turn"] "law" (defScope st_law) f cdv A outer s0 H E).env (cxOf (L2.CX P w) P w c.K mg base ["script", "row", "turn"] "law" (defScope st_law) f cdv A outer s0 H E).xe := passes_of rfl
    exact ss_cons (s_for B po (di_r1 de_int m.range) (gn 2 B.nd) (ss_one (s_if (dt_not (dt_tru (ds_d (de_call C B (Nat.le_refl _) (da_cons (dv 1) da_nil))))) (ss_one (s_ret de_bl)) ss_nil))) (ss_one (s_ret de_bl))
  · obtain ⟨a, ns, rfl, hS, hT, hq⟩ := h
    refine ⟨_, rfl, by rw [sizeLine_eq]; exact (show 4 ≤ 16777216 by decide), fun p hp => ⟨⟨K, T, CB, p, a, ns, upd H p (.lst [.ref a, .int 0, .int 11003, .int 0]), fun _ => none⟩, ⟨rfl, rfl, rfl⟩, ?_⟩⟩
    have le : Le H (upd H p (.lst [.ref a, .int 0, .int 11003, .int 0])) := upd_le hp
    have am : Amb K T p a ns (upd H p (.lst [.ref a, .int 0, .int 11003, .int 0])) := ⟨⟨0, 11003, 0, upd_same, Int.le_refl _⟩, Same.seq le hS, hT.ext le⟩
    refine ⟨fun _ => none, [.un, .dat .row, .un], { nx := fun _ => False, rt := fun d => d = .bl true }, ⟨am, am, .refl _ _, ⟨(fun _ _ z => nomatch z), rfl, (fun _ _ z => nomatch z)⟩, .refl _ _, fun i => ?_, fun i j q ⟨z, _⟩ => ?_, rfl⟩, ?_, ⟨fun _ _ _ _ _ _ z => z.elim, fun F' d v H' _ _ _ _ e rv => ?_, fun _ _ _ _ _ _ z => z.elim, fun _ _ _ _ _ _ z => z.elim⟩⟩
    · match i with
      | 0 => exact trivial
      | 1 => exact ⟨.ref p, rfl, rfl⟩
      | 2 => exact trivial
      | i + 3 => exact trivial
    · match i with
      | 0 => rcases z with ⟨_, z⟩ | ⟨_, z⟩ | ⟨_, z⟩ <;> cases z
      | 1 => rcases z with ⟨_, z⟩ | ⟨_, z⟩ | ⟨_, z⟩ <;> cases z
      | 2 => rcases z with ⟨_, z⟩ | ⟨_, z⟩ | ⟨_, z⟩ <;> cases z
      | i + 3 => rcases z with ⟨_, z⟩ | ⟨_, z⟩ | ⟨_, z⟩ <;> cases z
    · exact ⟨⟨by decide, by decide, by decide, by decide⟩, rfl, law_loop (fun _ => rfl) _ _⟩
    · subst e
      have e : v = .bl true := rv
      rw [e]
      exact hq _
end

def initSt : Stmt := match topS 1 with
  | .ClassDef _ _ _ body _ _ _ _ _ _ _ => body.getD 0 (.Pass ⟨0, 0, 0, 0⟩)
  | s => s
def dInit : He.DefD := ⟨("BadArgument", some "__init__"), "__init__", "BadArgument.__init__", defArgs initSt, defBody initSt, defScope initSt, [], []⟩
def dF (x : Str) (i : Nat) : He.DefD := ⟨(x, none), x, x, defArgs (topS i), defBody (topS i), defScope (topS i), [], []⟩
def fnL : List He.DefD := [dInit, dF "require" 3, dF "is_whole" 4, dF "is_row" 5, dF "are_wholes" 6, dF "is_table" 11, dF "sums_of" 12, dF "all_orders" 13, dF "most_of" 14, dF "prices" 15, dF "is_prices" 16, dF "_law_taken" 18, dF "_law_pick" 19, dF "_law_refused" 20, dF "_law_alike" 21, dF "_law_table" 22, dF "_law_most" 23, dF "_law_fine" 24, dF "_law_case" 25, dF "law" 26]
def faL : List He.Fa := [.glo "BadArgument", .glo "require", .glo "is_whole", .glo "is_row", .glo "are_wholes", .glo "is_table", .glo "sums_of", .glo "all_orders", .glo "most_of", .glo "prices", .glo "is_prices", .glo "_law_taken", .glo "_law_pick", .glo "_law_refused", .glo "_law_alike", .glo "_law_table", .glo "_law_most", .glo "_law_fine", .glo "_law_case", .glo "law", .free "abs", .free "all", .free "any", .free "bool", .free "dict", .free "enumerate", .free "int", .free "isinstance", .free "len", .free "list", .free "max", .free "min", .free "range", .free "set", .free "sorted", .free "str", .free "sum", .free "tuple", .free "zip", .int "MOST_SIDE" (7), .int "MOST_WORTH" (999), .int "NONE" (-1)]
abbrev hk : PySem.W.Hook := He.hookX 5 faL fnL [] [("_law_case", none)] lowB
abbrev RR : PySem.W.OpenRow := PySem.W.OpenLaw.row PySem.Challenge.rw_logsawn_k10_whole_prices_of_givings
def ob (s : PySem.W.SharedT) : He.AlX := He.obsX 5 faL fnL [] [("_law_case", none)] lowB (HandSHeadRun.getT s)
theorem ob_eq (s : PySem.W.SharedT) : ob s = hk.obs s.abs := He.obsX_eq (HandSHeadRun.getT_eq s)
def names : List Str := ("require" : Str) :: ("is_whole" : Str) :: ("is_row" : Str) :: ("are_wholes" : Str) :: ("is_table" : Str) :: ("sums_of" : Str) :: ("all_orders" : Str) :: ("most_of" : Str) :: ("prices" : Str) :: ("is_prices" : Str) :: ("_law_taken" : Str) :: ("_law_pick" : Str) :: ("_law_refused" : Str) :: ("_law_alike" : Str) :: ("_law_table" : Str) :: ("_law_most" : Str) :: ("_law_fine" : Str) :: ("_law_case" : Str) :: ("BadArgument" : Str) :: ("MOST_SIDE" : Str) :: ("MOST_WORTH" : Str) :: ("NONE" : Str) :: []
set_option maxHeartbeats 0 in
theorem run (w : World) : HandSHeadRun.RunEq RR (PySem.W.view RR.prog [26]) hk ob 4000 names w := by
  intro os
  kernel_rfl
theorem fun_eq {K : PySem.W.Frag} {x : Str} {st : Stmt} {f : Addr} {fd fd' : FuncData} (F : Fun K x x st f fd) (G : FunD K x x (defArgs st) (defBody st) (defScope st) [] [] f fd') : fd = fd' := by
  obtain ⟨oc, od, kV, doc, pm, an, cdv, ct, osl, rfl, lk, _⟩ := F.ex
  obtain ⟨oc2, od2, dV2, kV2, doc2, pm2, an2, cdv2, ct2, osl2, rfl, lk2, _⟩ := G.ex
  rw [lk] at lk2
  cases lk2
  rfl
section
variable {w : World} {K : PySem.W.Frag} {mg : Str → Option Value} {h : Heap}
theorem md_ok (X : K.In h) (G : h.Ns mainGlobals mg) (c : He.SaysX faL fnL [] [("_law_case", none)] lowB w h K) : Md K mg := by
  have d := c.t.d
  have ff : ∀ {i : Nat} {f : He.Fa}, faL[i]? = some f → f.ok K = true := fun {i f} e => d.fact i e
  refine ⟨⟨He.free_ok X G (ff (i := 20) rfl), He.free_ok X G (ff (i := 21) rfl), He.free_ok X G (ff (i := 22) rfl), He.free_ok X G (ff (i := 23) rfl), He.free_ok X G (ff (i := 24) rfl), He.free_ok X G (ff (i := 25) rfl), He.free_ok X G (ff (i := 26) rfl), He.free_ok X G (ff (i := 27) rfl), He.free_ok X G (ff (i := 28) rfl), He.free_ok X G (ff (i := 29) rfl), He.free_ok X G (ff (i := 30) rfl), He.free_ok X G (ff (i := 31) rfl), He.free_ok X G (ff (i := 32) rfl), He.free_ok X G (ff (i := 33) rfl), He.free_ok X G (ff (i := 34) rfl), He.free_ok X G (ff (i := 35) rfl), He.free_ok X G (ff (i := 36) rfl), He.free_ok X G (ff (i := 37) rfl), He.free_ok X G (ff (i := 38) rfl)⟩, ?_, ?_, ?_, ?_, ?_, ?_, ?_, ?_, ?_, ?_, ?_, ?_, ?_, ?_, ?_, ?_, ?_, ?_, ?_, ?_, ?_, ?_, ?_⟩
  · obtain ⟨fd, F⟩ := d.def_ 0 (d := dInit) rfl
    exact low_ok c.more (He.glo_ok X G (ff (i := 0) rfl)) F
  · obtain ⟨fd, F⟩ := d.def_ 1 (d := dF "require" 3) rfl
    exact ⟨fd, fun_of (st := st_require) F, He.glo_ok X G (ff (i := 1) rfl)⟩
  · obtain ⟨fd, F⟩ := d.def_ 2 (d := dF "is_whole" 4) rfl
    exact ⟨fd, fun_of (st := st_is_whole) F, He.glo_ok X G (ff (i := 2) rfl)⟩
  · obtain ⟨fd, F⟩ := d.def_ 3 (d := dF "is_row" 5) rfl
    exact ⟨fd, fun_of (st := st_is_row) F, He.glo_ok X G (ff (i := 3) rfl)⟩
  · obtain ⟨fd, F⟩ := d.def_ 4 (d := dF "are_wholes" 6) rfl
    exact ⟨fd, fun_of (st := st_are_wholes) F, He.glo_ok X G (ff (i := 4) rfl)⟩
  · obtain ⟨fd, F⟩ := d.def_ 5 (d := dF "is_table" 11) rfl
    exact ⟨fd, fun_of (st := st_is_table) F, He.glo_ok X G (ff (i := 5) rfl)⟩
  · obtain ⟨fd, F⟩ := d.def_ 6 (d := dF "sums_of" 12) rfl
    exact ⟨fd, fun_of (st := st_sums_of) F, He.glo_ok X G (ff (i := 6) rfl)⟩
  · obtain ⟨fd, F⟩ := d.def_ 7 (d := dF "all_orders" 13) rfl
    exact ⟨fd, fun_of (st := st_all_orders) F, He.glo_ok X G (ff (i := 7) rfl)⟩
  · obtain ⟨fd, F⟩ := d.def_ 8 (d := dF "most_of" 14) rfl
    exact ⟨fd, fun_of (st := st_most_of) F, He.glo_ok X G (ff (i := 8) rfl)⟩
  · obtain ⟨fd, F⟩ := d.def_ 9 (d := dF "prices" 15) rfl
    exact ⟨fd, fun_of (st := st_prices) F, He.glo_ok X G (ff (i := 9) rfl)⟩
  · obtain ⟨fd, F⟩ := d.def_ 10 (d := dF "is_prices" 16) rfl
    exact ⟨fd, fun_of (st := st_is_prices) F, He.glo_ok X G (ff (i := 10) rfl)⟩
  · obtain ⟨fd, F⟩ := d.def_ 11 (d := dF "_law_taken" 18) rfl
    exact ⟨fd, fun_of (st := st__law_taken) F, He.glo_ok X G (ff (i := 11) rfl)⟩
  · obtain ⟨fd, F⟩ := d.def_ 12 (d := dF "_law_pick" 19) rfl
    exact ⟨fd, fun_of (st := st__law_pick) F, He.glo_ok X G (ff (i := 12) rfl)⟩
  · obtain ⟨fd, F⟩ := d.def_ 13 (d := dF "_law_refused" 20) rfl
    exact ⟨fd, fun_of (st := st__law_refused) F, He.glo_ok X G (ff (i := 13) rfl)⟩
  · obtain ⟨fd, F⟩ := d.def_ 14 (d := dF "_law_alike" 21) rfl
    exact ⟨fd, fun_of (st := st__law_alike) F, He.glo_ok X G (ff (i := 14) rfl)⟩
  · obtain ⟨fd, F⟩ := d.def_ 15 (d := dF "_law_table" 22) rfl
    exact ⟨fd, fun_of (st := st__law_table) F, He.glo_ok X G (ff (i := 15) rfl)⟩
  · obtain ⟨fd, F⟩ := d.def_ 16 (d := dF "_law_most" 23) rfl
    exact ⟨fd, fun_of (st := st__law_most) F, He.glo_ok X G (ff (i := 16) rfl)⟩
  · obtain ⟨fd, F⟩ := d.def_ 17 (d := dF "_law_fine" 24) rfl
    exact ⟨fd, fun_of (st := st__law_fine) F, He.glo_ok X G (ff (i := 17) rfl)⟩
  · obtain ⟨fd, F⟩ := d.def_ 18 (d := dF "_law_case" 25) rfl
    exact ⟨fd, fun_of (st := st__law_case) F, He.glo_ok X G (ff (i := 18) rfl)⟩
  · obtain ⟨fd, F⟩ := d.def_ 19 (d := dF "law" 26) rfl
    exact ⟨fd, fun_of (st := st_law) F, He.glo_ok X G (ff (i := 19) rfl)⟩
  · exact He.int_ok X G (ff (i := 39) rfl)
  · exact He.int_ok X G (ff (i := 40) rfl)
  · exact He.int_ok X G (ff (i := 41) rfl)
theorem rr_ok {P : Program} {base : Heap} (X : K.In h) (G : h.Ns mainGlobals mg) (c : He.SaysX faL fnL [] [("_law_case", none)] lowB w h K) (TB : LamX.TabB base mg (He.cT K ("_law_case", none)).1 (He.cT K ("_law_case", none)).2) (fd : FuncData) (F : Fun K "_law_case" "_law_case" st__law_case (He.ga K "_law_case") fd) : RefTxt P w K mg base (lamTab K) (He.ga K "BadArgument") fd.code "_law_case.<locals>." := by
  have M := md_ok X G c
  have d := c.t.d
  obtain ⟨fc, FC⟩ := d.def_ 18 (d := dF "_law_case" 25) rfl
  obtain ⟨fr, FR⟩ := d.def_ 13 (d := dF "_law_refused" 20) rfl
  have e : fd = fc := fun_eq (st := st__law_case) F FC
  subst e
  refine ref_ok M.low (He.glo_ok X G (d.fact 13 rfl)) FR (FunD.bindsN (ps := ["call"]) FR (fun _ _ _ _ _ _ us hl => match us, hl with | [_], _ => rfl)) ⟨rfl, rfl, rfl, by decide +kernel, rfl, by decide +kernel, by decide +kernel⟩ (by first | exact Or.inl rfl | exact Or.inr (Or.inl rfl) | exact Or.inr (Or.inr rfl)) rfl rfl FC TB
theorem law_at {P : Program} {fa : Addr} (X : K.In h) (G : h.Ns mainGlobals mg) (hfa : mg ("law" : Str) = some (.ref fa)) (c : He.SaysX faL fnL [] [("_law_case", none)] lowB w h K) :
    ∃ (fd : FuncData) (cs : List (Addr × Addr)) (sp : Sp), (∀ p ∈ cs, h.get? p.2 = some { cls := .none, data := .fields #[] }) ∧ (∀ p ∈ cs, K.lookup p.2 = none) ∧ (∀ p ∈ cs, PySem.W.CodeHd h p.1 p.2) ∧ (∀ (s : Shared) (u : Value), BindsTo s fd ⟨[u], []⟩ [("script", u)]) ∧
    (∀ (H : Hp) (a : Addr) (ns : List Int), ns.length ≤ 63 → (∀ z ∈ ns, Builtin.Int.intBits z ≤ 1048576) → (∀ p ∈ cs, H p.2 = some (.tbl #[])) → SqL K H a (ns.map V.int) → sp [.ref a] H (fun v _ => v = .bl true) fun _ _ _ => False) ∧
    ∀ base : Heap, K.In base → base.Ns mainGlobals mg → (∀ p ∈ cs, LamX.TabB base mg p.1 p.2) → FnOk P w K mg base (L2.CX P w) 8 fa fd ["script"] sp := by
  have M := md_ok X G c
  have d := c.t.d
  obtain ⟨fl, FL⟩ := d.def_ 19 (d := dF "law" 26) rfl
  have e := hfa.symm.trans (He.glo_ok X G (d.fact 19 (f := .glo "law") rfl))
  cases e
  have b := FunD.bindsA (ps := ["script"]) FL fun _ _ _ _ _ _ us hl => match us, hl with | [_], _ => rfl
  refine ⟨fl, [He.cT K ("_law_case", none)], lawSp K (lamTab K), fun p hp => ?_, fun p hp => ?_, fun p hp => ?_, fun s u => b s [u] rfl, fun H a ns _ _ hH hS => ⟨a, ns, rfl, hS, fun p hp => ?_, fun _ => rfl⟩, fun base _ _ TB => ?_⟩
  · rw [List.mem_singleton.mp hp]
    exact c.empty _ (List.mem_singleton.mpr rfl)
  · rw [List.mem_singleton.mp hp]
    exact c.out _ (List.mem_singleton.mpr rfl)
  · rw [List.mem_singleton.mp hp]
    exact PySem.W.codeHd_of_K X (c.hd _ (List.mem_singleton.mpr rfl))
  · rw [List.mem_singleton.mp hp]
    exact LamX.TabS.nil (hH _ (List.mem_singleton.mpr rfl))
  · exact ok_law M.blt (fun_of (st := st_law) FL) (c__law_case M (rr_ok X G c (TB _ (List.mem_singleton.mpr rfl))))
end
end DL
open PySem PySem.W PySem.Calls PyProof.Rows
set_option maxHeartbeats 0 in
theorem PySem.Challenge.cw_logsawn_k10_whole_prices_of_givings_holds : PySem.Challenge.rw_logsawn_k10_whole_prices_of_givings.Holds := by
  w_on; o_law
  refine HandSHeadRun.head_any (r := OpenLaw.row PySem.Challenge.rw_logsawn_k10_whole_prices_of_givings) (q := view (OpenLaw.row PySem.Challenge.rw_logsawn_k10_whole_prices_of_givings).prog [26]) (H := DL.hk) (ob := DL.ob) (M := 4000) (loose := DL.names) (d := HandSHeadRun.topDef (OpenLaw.row PySem.Challenge.rw_logsawn_k10_whole_prices_of_givings).prog 26) (kwd := []) DL.ob_eq
    (by kernel_rfl) (fun s => by kernel_rfl) DL.run (by kernel_rfl) (by kernel_rfl) (by kernel_rfl) (by rfl) (by first | assumption | decide +kernel) (by decide +kernel) ⟨rfl, rfl, rfl, rfl, rfl, by decide +kernel⟩ ?hw ?hc
  case hw => w_witness2
  case hc =>
    refine LamX.walk_ofTsE (l := PySem.Challenge.rw_logsawn_k10_whole_prices_of_givings) (n := 63) (k := 8) (x := "script") (CX := fun w => L2.CX (PySem.Challenge.rw_logsawn_k10_whole_prices_of_givings).prog w) rfl (by decide) (by kernel_rfl) ⟨rfl, by decide, by decide⟩ ?F (fun _ _ _ _ _ ⟨_, _, _, _, _, _, _, _, _, _, _, _, z⟩ => z)
    intro w mg fa h Y G hmg0
    obtain ⟨K, KX, c⟩ := Y
    have hmg : mg ("law" : PySem.Str) = some (.ref fa) := by
      have e : (HandSHeadRun.topDef (OpenLaw.row PySem.Challenge.rw_logsawn_k10_whole_prices_of_givings).prog 26).name = ("law" : PySem.Str) := by kernel_rfl
      rw [← e]
      exact hmg0
    exact ⟨K, KX, DL.law_at KX G hmg c⟩

