import PyProof.Rows.All
import Wide.All
import OpenK.AllK
import Wide.FinOn
import HandS.ForMost
import HandS.Wide
import HandS.Flow
import HandS.Style
import HandS.IsInst
import HandS.Lambda
import HandS.SetFor
import KE.GoesEnumKw
import HandS.MakeKwOnly
import HandS.Zip
import HandS.Rev
import HandS.SortInts
import HandS.More
import KE.GoesMore
import HandS.Conv
import PyProof.LongRange
import HandS.EndBits
import PyProof.ReprRoads
import PyProof.ReprLen
import HandS.NoneIn
import HandS.Codes
import HandS.SlotsOwn
import HandS.Defaults
import HandS.SetBool
import HandS.Strs
import HandS.ExcInit
import HandS.ExcOwn
import HandS.ExcIs
import HandS.WordsExc
import PyProof.ExcBaseAll.RuntimeError
import KE.KExcInit
import HandS.ExcField
import PyProof.ExcBaseAll.IndexError
import KE.KExcIs
import HandS.EndOwn
import HandS.NestedK
import KE.DatumOrd
import HandS.DictComp
import HandS.Steps
import HandS.RevRange
import PyProof.ListRange
import HandS.CallSlots
import HandS.TryOnly
import PyProof.EvalArms
import PyProof.InstNe
import OpenK.KMake
import HandS.OwnEq
import PyProof.NeKinds
import OpenK.KOps
import HandS.Set
import HandS.Deep
import HandS.SortKw
import KE.SortKeyHeap
import PyProof.Rows.IntBool
import PyProof.Rows.FloatCmp
import PyProof.Rows.ReprOcc
import PyProof.Rows.RegStrFacts
import PySem.Challenge.RW_askback_k38_papers_of_marks
set_option Elab.async false
set_option linter.all false
set_option autoImplicit false
set_option maxRecDepth 100000
set_option maxHeartbeats 8000000
/-! QD -/
/-! Q, the data level: values as data, programs as predicate transformers over an environment of data. -/
namespace Q
open PySem
inductive D where
  | non | bl (b : Bool) | int (i : Int) | str (x : Str)
  | lst (l : List D) | tup (l : List D) | dic (ks : List (Sum Int Str)) (l : List D)
  | ins (C : Addr) (ns : List Str) (l : List D)
  | pen | ty (n : String) | adr (a : Addr) | scr (ns : List Int)
  | rp (d : D)   -- the text that repr tells of a datum
abbrev Ky := Sum Int Str
/-- a slot: nothing known; a datum; a list, a dict that this name alone holds -/
inductive Sl where
  | no | val (d : D) | own (d : D)
abbrev En := List Sl
/-- the pen: its cells, how many were drawn, what is left of a great one -/
structure Ts where
  cells : List Int
  at' : Int
  left : Int
  tape : Bool
  /-- objects that may change, by their addresses -/
  obs : Addr → Option D
/-- objects there -/
def Ts.dom (t : Ts) (a : Addr) : Prop := ∃ d, t.obs a = some d
def noObs : Addr → Option D := fun _ => none
/-- without objects, with those -/
def Ts.bare (t : Ts) : Ts := ⟨t.cells, t.at', t.left, t.tape, noObs⟩
def Ts.wear (t : Ts) (o : Addr → Option D) : Ts := ⟨t.cells, t.at', t.left, t.tape, o⟩
/-- an object is written -/
def Ts.put (t : Ts) (a : Addr) (d : D) : Ts := ⟨t.cells, t.at', t.left, t.tape, fun b => if b = a then some d else t.obs b⟩
abbrev DE := En → Ts → (D → Ts → Prop) → Prop
abbrev DT := En → Ts → (Bool → Ts → Prop) → Prop
abbrev DA := En → Ts → (List D → Ts → Prop) → Prop
abbrev DO := En → Ts → (Option Int → Ts → Prop) → Prop
structure DEnds where
  nx : En → Ts → Prop
  rt : D → En → Ts → Prop
  bk : En → Ts → Prop
  ct : En → Ts → Prop
abbrev DS := DEnds → En → Ts → Prop
abbrev DG := D → En → Ts → (En → Ts → Prop) → Prop
abbrev DGs := List D → En → Ts → (En → Ts → Prop) → Prop
abbrev DOp := D → D → (D → Prop) → Prop
abbrev DU := D → (D → Prop) → Prop
abbrev DB := List D → (D → Prop) → Prop
/-- a def's promise: arguments, the pen's count, what is wanted -/
abbrev PSp := List D → Ts → (D → Ts → Prop) → Prop
/-- both ways -/
def Br (b : Bool) (p q : Prop) : Prop := match b with
  | true => p
  | false => q
theorem Br.mk {b : Bool} {p q : Prop} (h1 : b = true → p) (h2 : b = false → q) : Br b p q := by
  cases b with
  | true => exact h1 rfl
  | false => exact h2 rfl
/- as data, alike (True is 1) -/
def b2i (b : Bool) : Int := if b then 1 else 0
mutual
def deq : D → D → Bool
  | .non, .non => true
  | .bl a, .bl b => a == b
  | .bl a, .int i => b2i a == i
  | .int i, .bl a => i == b2i a
  | .int i, .int j => decide (i = j)
  | .str x, .str y => decide (x = y)
  | .lst a, .lst b => deqs a b
  | .tup a, .tup b => deqs a b
  | _, _ => false
def deqs : List D → List D → Bool
  | [], [] => true
  | x :: a, y :: b => deq x y && deqs a b
  | _, _ => false
end
/- what == is told of here -/
mutual
def plain : D → Bool
  | .non => true | .bl _ => true | .int _ => true | .str x => x.cps.all (· < 0x110000)
  | .lst l => plains l | .tup l => plains l
  | _ => false
def plains : List D → Bool
  | [] => true
  | x :: a => plain x && plains a
end
mutual
def deep : D → Nat
  | .lst l => deeps l + 1 | .tup l => deeps l + 1
  | _ => 0
def deeps : List D → Nat
  | [] => 0
  | x :: a => max (deep x) (deeps a)
end
/-! sizes -/
def Sm (b : Nat) (i : Int) : Prop := i.natAbs < 2 ^ b
def MulOk (i j : Int) : Prop := Sm 64 i ∨ Sm 64 j ∨ (∃ a b, Sm a i ∧ Sm b j ∧ 0 < a ∧ 0 < b ∧ a + b ≤ 1000000)
def DivOk (j : Int) : Prop := 0 < j ∧ Sm 9000 j
def PowOk (i j : Int) : Prop := 0 ≤ j ∧ ∃ a : Nat, Sm a i ∧ (a : Int) * j ≤ 100000000
def zLen : Nat := 16000000
/-! expressions -/
def dVar (i : Nat) : DE := fun env t P => match env[i]? with
  | some (.val d) => P d t
  | _ => False
/-- a name, read alone -/
def dView (i : Nat) : DE := fun env t P => match env[i]? with
  | some (.val d) => P d t
  | some (.own d) => P d t
  | _ => False
def dC (d : D) : DE := fun _ t P => P d t
def dOp (o : DOp) (a b : DE) : DE := fun env t P => a env t fun x t1 => b env t1 fun y t2 => o x y fun z => P z t2
def dUn (o : DU) (a : DE) : DE := fun env t P => a env t fun x t1 => o x fun z => P z t1
def dNil : DA := fun _ t P => P [] t
def dCons (a : DE) (r : DA) : DA := fun env t P => a env t fun x t1 => r env t1 fun xs t2 => P (x :: xs) t2
def dCB (b : DB) (a : DA) : DE := fun env t P => a env t fun xs t1 => b xs fun z => P z t1
/-- the length of a display -/
def Few (l : List D) (p : Prop) : Prop := match Nat.ble l.length 1000 with
  | true => p
  | false => False
def dTup (a : DA) : DE := fun env t P => a env t fun xs t1 => Few xs (P (.tup xs) t1)
def dLst (a : DA) : DE := fun env t P => a env t fun xs t1 => Few xs (P (.lst xs) t1)
def dCall (sp : PSp) (dvs : List D) (a : DA) : DE := fun env t P => a env t fun xs t1 => sp (xs ++ dvs) t1 P
def dFld (C : Addr) (f : Str) (a : DE) : DE := fun env t P => a env t fun x t1 => match x with
  | .ins C' ns l => C' = C ∧ (match (ns.zip l).lookup f with | some d => P d t1 | none => False)
  | _ => False
def dMeth (C : Addr) (m : Str) (sp : PSp) (dvs : List D) (a : DE) (r : DA) : DE := fun env t P => a env t fun x t1 => match x with
  | .ins C' ns l => C' = C ∧ ns.contains m = false ∧ r env t1 fun xs t2 => sp (.ins C' ns l :: (xs ++ dvs)) t2 P
  | _ => False
def dIfE (c : DT) (a b : DE) : DE := fun env t P => c env t fun k t1 => Br k (a env t1 P) (b env t1 P)
def dChain (o o' : DOp) (a b c : DE) : DE := fun env t P => a env t fun x t1 => b env t1 fun y t2 => o x y fun z => match z with
  | .bl k => Br k (c env t2 fun w t3 => o' y w fun z' => P z' t3) (P (.bl false) t2)
  | _ => False
def dAndV (a b : DE) : DE := fun env t P => a env t fun x t1 => match x with
  | .bl k => Br k (b env t1 P) (P (.bl false) t1)
  | _ => False
def dNotV (a : DE) : DE := fun env t P => a env t fun x t1 => match x with
  | .bl k => P (.bl (!k)) t1
  | _ => False
def dNoPart : DO := fun _ t P => P none t
def dPart (a : DE) : DO := fun env t P => a env t fun x t1 => match x with
  | .int i => P (some i) t1
  | _ => False
/-- a slice's place -/
def sIx (n d : Nat) : Option Int → Nat
  | none => d
  | some i => if i < 0 then ((n : Int) + i).toNat else min i.toNat n
def cutD (xs : List D) (lo hi : Option Int) : List D := (xs.drop (sIx xs.length 0 lo)).take (sIx xs.length xs.length hi - sIx xs.length 0 lo)
def dSlice (a : DE) (lo hi : DO) : DE := fun env t P => a env t fun x t1 => lo env t1 fun l t2 => hi env t2 fun h t3 => match x with
  | .lst xs => P (.lst (cutD xs l h)) t3
  | .tup xs => (cutD xs l h).length < xs.length ∧ P (.tup (cutD xs l h)) t3
  | .scr ns => P (.lst (cutD (ns.map .int) l h)) t3
  | _ => False
/-- xs[::-1] -/
def dRev (a : DE) : DE := fun env t P => a env t fun x t1 => match x with
  | .lst xs => P (.lst xs.reverse) t1
  | _ => False
/-! tests -/
def dB (a : DE) : DT := fun env t P => a env t fun x t1 => match x with
  | .bl b => P b t1
  | _ => False
def dAnd (a b : DT) : DT := fun env t P => a env t fun k t1 => Br k (b env t1 P) (P false t1)
def dOr (a b : DT) : DT := fun env t P => a env t fun k t1 => Br k (P true t1) (b env t1 P)
def dNot (a : DT) : DT := fun env t P => a env t fun k t1 => P (!k) t1
/-! operators -/
def oAdd : DOp := fun x y P => match x, y with
  | .int i, .int j => P (.int (i + j))
  | .lst a, .lst b => a.length + b.length ≤ zLen ∧ P (.lst (a ++ b))
  | .tup a, .tup b => (a.length + b.length ≤ zLen ∧ a ≠ [] ∧ b ≠ []) ∧ P (.tup (a ++ b))
  | .str a, .str b => a.length + b.length ≤ zLen ∧ P (.str (a ++ b))
  | _, _ => False
def oSub : DOp := fun x y P => match x, y with
  | .int i, .int j => P (.int (i - j))
  | _, _ => False
def rep (n : Nat) (a : List D) : List D := (List.replicate n a).flatten
def oMul : DOp := fun x y P => match x, y with
  | .int i, .int j => MulOk i j ∧ P (.int (i * j))
  | .lst a, .int j => (j < 1000000000 ∧ -1000000000 < j ∧ a.length * j.toNat ≤ zLen) ∧ P (.lst (rep j.toNat a))
  | _, _ => False
def oAddI : DOp := fun x y P => match x, y with
  | .int i, .int j => P (.int (i + j))
  | _, _ => False
def oMulI : DOp := fun x y P => match x, y with
  | .int i, .int j => MulOk i j ∧ P (.int (i * j))
  | _, _ => False
def oDiv : DOp := fun x y P => match x, y with
  | .int i, .int j => DivOk j ∧ P (.int (i / j))
  | _, _ => False
def oMod : DOp := fun x y P => match x, y with
  | .int i, .int j => 0 < j ∧ P (.int (i % j))
  | _, _ => False
def oPow : DOp := fun x y P => match x, y with
  | .int i, .int j => PowOk i j ∧ P (.int (i ^ j.toNat))
  | _, _ => False
def oNeg : DU := fun x P => match x with
  | .int i => P (.int (-i))
  | _ => False
def oLt : DOp := fun x y P => match x, y with
  | .int i, .int j => P (.bl (decide (i < j)))
  | _, _ => False
def oLe : DOp := fun x y P => match x, y with
  | .int i, .int j => P (.bl (decide (i ≤ j)))
  | _, _ => False
def oGt : DOp := fun x y P => match x, y with
  | .int i, .int j => P (.bl (decide (j < i)))
  | _, _ => False
def oGe : DOp := fun x y P => match x, y with
  | .int i, .int j => P (.bl (decide (j ≤ i)))
  | _, _ => False
def oEq : DOp := fun x y P => match x, y with
  | .int i, .int j => P (.bl (decide (i = j)))
  | x, y => (plain x = true ∧ plain y = true ∧ deep x ≤ 60 ∧ deep y ≤ 60) ∧ P (.bl (deq x y))
def oNe : DOp := fun x y P => match x, y with
  | .int i, .int j => P (.bl (!decide (i = j)))
  | x, y => (plain x = true ∧ plain y = true ∧ deep x ≤ 60 ∧ deep y ≤ 60) ∧ P (.bl (!deq x y))
/-- an index of any sign -/
def atI (xs : List D) (i : Int) : Option D := if 0 ≤ i then (if i < xs.length then xs[i.toNat]? else none) else if -(xs.length : Int) ≤ i then xs[(i + xs.length).toNat]? else none
def oIx : DOp := fun x y P => match x, y with
  | .lst xs, .int i => ∃ d, atI xs i = some d ∧ P d
  | .tup xs, .int i => ∃ d, atI xs i = some d ∧ P d
  | _, _ => False
/-! built-in functions -/
def bLen : DB := fun xs P => match xs with
  | [.lst l] => P (.int l.length)
  | [.tup l] => P (.int l.length)
  | [.scr l] => P (.int l.length)
  | [.str z] => z.length ≤ zLen ∧ P (.int z.length)
  | _ => False
def bAbs : DB := fun xs P => match xs with
  | [.int i] => P (.int (if i < 0 then -i else i))
  | _ => False
def intsD : List D → Option (List Int)
  | [] => some []
  | .int i :: r => (intsD r).map (i :: ·)
  | _ => none
def bMax : DB := fun xs P => match xs with
  | [.int i, .int j] => P (.int (if j > i then j else i))
  | [.lst l] => ∃ ns, intsD l = some ns ∧ 0 < ns.length ∧ ∀ m, m ∈ ns → (∀ y, y ∈ ns → y ≤ m) → P (.int m)
  | _ => False
def bMin : DB := fun xs P => match xs with
  | [.int i, .int j] => P (.int (if j < i then j else i))
  | [.lst l] => ∃ ns, intsD l = some ns ∧ 0 < ns.length ∧ ∀ m, m ∈ ns → (∀ y, y ∈ ns → m ≤ y) → P (.int m)
  | _ => False
def bSum : DB := fun xs P => match xs with
  | [.lst l] => ∃ ns, intsD l = some ns ∧ P (.int ns.sum)
  | _ => False
def bls : List D → Option (List Bool)
  | [] => some []
  | .bl i :: r => (bls r).map (i :: ·)
  | _ => none
def bAll : DB := fun xs P => match xs with
  | [.lst l] => ∃ bs, bls l = some bs ∧ P (.bl (bs.all id))
  | _ => False
def bDivmod : DB := fun xs P => match xs with
  | [.int i, .int j] => (0 < j ∧ j < 1073741824) ∧ P (.tup [.int (i / j), .int (i % j)])
  | _ => False
def bList : DB := fun xs P => match xs with
  | [.lst l] => P (.lst l)
  | [.tup l] => P (.lst l)
  | _ => False
def bTuple : DB := fun xs P => match xs with
  | [.lst l] => P (.tup l)
  | [.tup l] => P (.tup l)
  | _ => False
/-! statements -/
def dNext : DS := fun DD env t => DD.nx env t
def dSeq (a b : DS) : DS := fun DD env t => a ⟨b DD, DD.rt, DD.bk, DD.ct⟩ env t
def gName (i : Nat) : DG := fun d env t P => P (env.set i (.val d)) t
def gNil : DGs := fun ds env t P => match ds with
  | [] => P env t
  | _ => False
def gCons (g : DG) (r : DGs) : DGs := fun ds env t P => match ds with
  | d :: ds => g d env t fun env' t' => r ds env' t' P
  | _ => False
def gTup (n : Nat) (g : DGs) : DG := fun d env t P => match d with
  | .tup l => l.length = n ∧ g l env t P
  | _ => False
def dAsg (a : DE) (g : DG) : DS := fun DD env t => a env t fun x t1 => g x env t1 DD.nx
/-- name = a new list: the name's own -/
def dAsgN (i : Nat) (a : DE) : DS := fun DD env t => a env t fun x t1 => DD.nx (env.set i (.own x)) t1
/-- the name's own list is not written again -/
def dFrz (i : Nat) : DS := fun DD env t => match env[i]? with
  | some (.own d) => DD.nx (env.set i (.val d)) t
  | _ => DD.nx env t
def dPar (i j : Nat) (a : DA) : DS := fun DD env t => a env t fun xs t1 => match xs with
  | [v, w] => DD.nx ((env.set i (.val v)).set j (.val w)) t1
  | _ => False
def dPar3 (i j k : Nat) (a : DA) : DS := fun DD env t => a env t fun xs t1 => match xs with
  | [v, w, z] => DD.nx (((env.set i (.val v)).set j (.val w)).set k (.val z)) t1
  | _ => False
def dAug (i : Nat) (o : DOp) (a : DE) : DS := fun DD env t => match env[i]? with
  | some (.val x) => a env t fun y t1 => o x y fun z => DD.nx (env.set i (.val z)) t1
  | _ => False
def dIf (c : DT) (a b : DS) : DS := fun DD env t => c env t fun k t1 => Br k (a DD env t1) (b DD env t1)
def dRet (a : DE) : DS := fun DD env t => a env t fun x t1 => DD.rt x env t1
/-- x.append(e), x the name's own -/
def dApp (i : Nat) (a : DE) : DS := fun DD env t => match env[i]? with
  | some (.own (.lst l)) => a env t fun y t1 => l.length < zLen ∧ DD.nx (env.set i (.own (.lst (l ++ [y])))) t1
  | _ => False
/-- an index that lies in it -/
def ixN (n : Nat) (i : Int) : Option Nat := if 0 ≤ i then (if i < n then some i.toNat else none) else if -(n : Int) ≤ i then some (i + n).toNat else none
/-- x[k] = e -/
def dSet (i : Nat) (k : DE) (a : DE) : DS := fun DD env t => a env t fun y t1 => match env[i]? with
  | some (.own (.lst l)) => k env t1 fun z t2 => (match z with
    | .int m => ∃ j, ixN l.length m = some j ∧ DD.nx (env.set i (.own (.lst (l.set j y)))) t2
    | _ => False)
  | _ => False
def dWhile (c : DT) (b : DS) : DS := fun DD env t => ∃ (Inv : En → Ts → Prop) (mu : En → Ts → Nat), Inv env t ∧ ∀ e m, Inv e m →
  c e m fun k m1 => Br k (b ⟨fun e' m' => Inv e' m' ∧ mu e' m' < mu e m, DD.rt, DD.nx, fun e' m' => Inv e' m' ∧ mu e' m' < mu e m⟩ e m1) (DD.nx e m1)
/-! dicts -/
/-- {k: v, ..}: keys that are texts, each once -/
def dDispL : List (Str × DE) → DA
  | [] => fun _ t P => P [] t
  | (_, a) :: r => fun env t P => a env t fun x t1 => dDispL r env t1 fun xs t2 => P (x :: xs) t2
def dDisp (l : List (Str × DE)) : DE := fun env t P => dDispL l env t fun xs t1 => P (.dic (l.map fun p => .inr p.1) xs) t1
/-! the pen's own rows: cells, at (turn), left (rest) -/
def dPenC (a : DE) : DE := fun env t P => a env t fun x t1 => match x with
  | .pen => P (.lst (t1.cells.map .int)) t1
  | _ => False
def dPenA (b : Bool) (a : DE) : DE := fun env t P => a env t fun x t1 => match x with
  | .pen => t1.tape = b ∧ P (.int t1.at') t1
  | _ => False
def dPenL (b : Bool) (a : DE) : DE := fun env t P => a env t fun x t1 => match x with
  | .pen => t1.tape = b ∧ P (.int t1.left) t1
  | _ => False
def dPutA (b : Bool) (i : Nat) (a : DE) : DS := fun DD env t => a env t fun y t1 => match y with
  | .int n => (match env[i]? with
    | some (.val .pen) => t1.tape = b ∧ DD.nx env ⟨t1.cells, n, t1.left, t1.tape, t1.obs⟩
    | _ => False)
  | _ => False
def dPutL (b : Bool) (i : Nat) (a : DE) : DS := fun DD env t => a env t fun y t1 => match y with
  | .int n => (match env[i]? with
    | some (.val .pen) => t1.tape = b ∧ DD.nx env ⟨t1.cells, t1.at', n, t1.tape, t1.obs⟩
    | _ => False)
  | _ => False
/-- what is walked: its items -/
abbrev DI := En → Ts → (List D → Ts → Prop) → Prop
def rng (lo : Int) (n : Nat) : List D := (List.range n).map fun (i : Nat) => D.int (lo + i)
def iRng1 (a : DE) : DI := fun env t P => a env t fun x t1 => match x with
  | .int n => (-1000000000000 < n ∧ n < 1000000000000) ∧ P (rng 0 n.toNat) t1
  | _ => False
def dFor (di : DI) (g : DG) (b : DS) : DS := fun DD env t => di env t fun xs t1 => ∃ Inv : Nat → En → Ts → Prop, Inv 0 env t1 ∧
  (∀ i x e m, xs[i]? = some x → Inv i e m → g x e m fun e' m' => b ⟨Inv (i + 1), DD.rt, DD.nx, Inv (i + 1)⟩ e' m') ∧ ∀ e m, Inv xs.length e m → DD.nx e m
def wipeE (env : En) : List Nat → En
  | [] => env
  | i :: r => (wipeE env r).set i .no
/-- [e for x in xs if c] -/
def dLc (vs : List Nat) (di : DI) (g : DG) (c : DT) (a : DE) : DE := fun env t P => di env t fun xs t1 => ∃ Inv : Nat → List D → Ts → Prop, Inv 0 [] t1 ∧
  (∀ i x acc m, xs[i]? = some x → Inv i acc m → g x (wipeE env vs) m fun e' m' => wipeE e' vs = wipeE env vs ∧ c e' m' fun k m1 => Br k (a e' m1 fun y m2 => acc.length < zLen ∧ Inv (i + 1) (acc ++ [y]) m2) (Inv (i + 1) acc m1)) ∧
  ∀ acc m, Inv xs.length acc m → P (.lst acc) m
def dYes : DT := fun _ t P => P true t
/-- a def's beginning -/
def start0 (N : List Str) (ds : List D) : En := ds.map Sl.val ++ List.replicate (N.length - ds.length) Sl.no
/-- a def's ends -/
def endsOf (P : D → Ts → Prop) : DEnds := ⟨fun _ t => P .non t, fun d _ t => P d t, fun _ _ => False, fun _ _ => False⟩
/-- the ends of a def that tells a new object -/
def endsN (P : D → Ts → Prop) : DEnds := ⟨fun _ _ => False, fun d _ t => match d with | .non => False | d => P d t, fun _ _ => False, fun _ _ => False⟩
theorem rng_len (lo : Int) (n : Nat) : (rng lo n).length = n := by simp [rng]
theorem rng_get {lo : Int} {n i : Nat} {d : D} (h : (rng lo n)[i]? = some d) : i < n ∧ d = .int (lo + i) := by
  unfold rng at h
  rw [List.getElem?_map] at h
  cases q : (List.range n)[i]? with
  | none => rw [q] at h; cases h
  | some j =>
    rw [q] at h
    obtain ⟨h1, h2⟩ := List.getElem?_eq_some_iff.mp q
    simp at h1 h2
    cases h
    exact ⟨h1, by rw [← h2]⟩
/-! ### classes of the text -/
structure Cl where
  House : Addr
  Lore : Addr
  Desk : Addr
  Beside : Addr
  Solver : Addr
/-- a value's built-in type -/
inductive Tn where
  | non | bl | int | str | lst | tup | dic
def tn : D → Option Tn
  | .non => some .non
  | .bl _ => some .bl
  | .int _ => some .int
  | .str _ => some .str
  | .lst _ => some .lst
  | .tup _ => some .tup
  | .dic _ _ => some .dic
  | _ => none
def isa : Tn → Tn → Bool
  | .non, .non => true
  | .bl, .bl => true
  | .bl, .int => true
  | .int, .int => true
  | .str, .str => true
  | .lst, .lst => true
  | .tup, .tup => true
  | .dic, .dic => true
  | _, _ => false
def Tn.name : Tn → String
  | .non => "NoneType"
  | .bl => "bool"
  | .int => "int"
  | .str => "str"
  | .lst => "list"
  | .tup => "tuple"
  | .dic => "dict"
/-- isinstance(e, T), isinstance(e, (T, ..)) -/
def dIsi (cs : List Tn) (a : DE) : DE := fun env t P => a env t fun x t1 => match tn x with
  | some n => P (.bl (cs.any (isa n))) t1
  | none => False
/-! ### __init__: what the instance holds so far (names, data), the others' slots -/
abbrev IK := List Str → List D → En → Ts → Prop
abbrev IS := IK → List Str → List D → En → Ts → Prop
def iThen (a b : IS) : IS := fun k => a (b k)
/-- if c: raise .. -/
def iGuard (c : DT) : IS := fun k ns l env t => c env t fun b t1 => Br b False (k ns l env t1)
/-- self.f = e -/
def iSet (f : Str) (a : DE) : IS := fun k ns l env t => a env t fun y t1 => (ns.contains f = false ∧ ns.length < 900) ∧ k (ns ++ [f]) (l ++ [y]) env t1
def startI (x : Addr) (N : List Str) (ds : List D) : En := .val (.adr x) :: start0 N ds
mutual
/-- no pen in it -/
def nopen : D → Bool
  | .pen => false
  | .lst l => nopens l
  | .tup l => nopens l
  | .dic _ l => nopens l
  | .ins _ _ l => nopens l
  | _ => true
def nopens : List D → Bool
  | [] => true
  | d :: l => nopen d && nopens l
end
/-- partial sums, each less one -/
def sumsOf : Int → List Int → List Int
  | _, [] => []
  | s, b :: r => (s + b - 1) :: sumsOf (s + b - 1) r
/-- self.sums = []; for many in beginning: self.sums.append(many - 1 + (self.sums[-1] if self.sums != [] else 0)) -/
def iSums (i j : Nat) : IS := fun k ns l env t => match env[i]? with
  | some (.val (.lst m)) => ∃ bs : List Int, m = bs.map .int ∧ bs.length ≤ 1000 ∧ (ns.contains ("sums" : Str) = false ∧ ns.length < 900 ∧ j < env.length) ∧ ∀ s, k (ns ++ [("sums" : Str)]) (l ++ [.lst ((sumsOf 0 bs).map .int)]) (env.set j s) t
  | some (.val (.tup m)) => ∃ bs : List Int, m = bs.map .int ∧ bs.length ≤ 1000 ∧ (ns.contains ("sums" : Str) = false ∧ ns.length < 900 ∧ j < env.length) ∧ ∀ s, k (ns ++ [("sums" : Str)]) (l ++ [.lst ((sumsOf 0 bs).map .int)]) (env.set j s) t
  | _ => False
/-- what is added, as the loop's step reads it: C the class, self at 0, many at j -/
def SumsE (C : Addr) (j : Nat) (de : DE) : Prop := ∀ (env : En) (t : Ts) (P : D → Ts → Prop) (ns : List Str) (l : List D) (cur : List Int) (m : Int), env[0]? = some (.val (.ins C ns l)) → (ns.zip l).lookup ("sums" : Str) = some (.lst (cur.map .int)) → env[j]? = some (.val (.int m)) →
  P (.int (m - 1 + cur.getLastD 0)) t → de env t P
/-- a list or a tuple, walked -/
def iSeq (a : DE) : DI := fun env t P => a env t fun x t1 => match x with
  | .lst l => P l t1
  | .tup l => P l t1
  | .scr ns => P (ns.map .int) t1
  | _ => False
/-! ### repr -/
mutual
def rsOk : D → Prop
  | .int i => Sm 1900 i
  | .lst l => rssOk l
  | .tup l => rssOk l
  | _ => True
def rssOk : List D → Prop
  | [] => True
  | x :: l => rsOk x ∧ rssOk l
end
mutual
/-- at most so many signs are in its text -/
def rsz : D → Nat
  | .int _ => 1921
  | .str x => 10 * x.length + 5
  | .lst l => rszs l + 3
  | .tup l => rszs l + 3
  | _ => 5
def rszs : List D → Nat
  | [] => 0
  | x :: l => rsz x + 2 + rszs l
end
def RpOk (x : D) : Prop := plain x = true ∧ deep x ≤ 60 ∧ rsOk x ∧ rsz x ≤ zLen
def bRepr : DB := fun xs P => match xs with
  | [x] => RpOk x ∧ P (.rp x)
  | _ => False
def oNeR : DOp := fun x y P => match x, y with
  | .rp a, .rp b => ∀ k : Bool, (a = b → k = false) → P (.bl k)
  | _, _ => False
/-! ### more of lists -/
/-- + of two lists, * of a list: the new list -/
def oCat : DOp := fun x y P => match x, y with
  | .lst a, .lst b => a.length + b.length ≤ zLen ∧ P (.lst (a ++ b))
  | _, _ => False
def oRep : DOp := fun x y P => match x, y with
  | .lst a, .int j => (j < 1000000000 ∧ -1000000000 < j ∧ a.length * j.toNat ≤ zLen) ∧ P (.lst (rep j.toNat a))
  | _, _ => False
/-! ### by names: the values in the order that is written, then put in the parameters' order -/
def pick {α : Type} (ix : List Nat) (l : List α) : List α := ix.filterMap fun i => l[i]?
/-! ### more -/
/-- a slot's value: the name's own, or a datum -/
def mSl (b : Bool) (d : D) : Sl := match b with
  | true => .own d
  | false => .val d
def setM : List (Nat × Bool) → En → List D → En
  | (i, b) :: r, env, d :: ds => setM r (env.set i (mSl b d)) ds
  | _, env, _ => env
/-- a, b = x, y where some are new objects, the names' own -/
def dParM (l : List (Nat × Bool)) (a : DA) : DS := fun DD env t => a env t fun xs t1 => match Nat.beq xs.length l.length with
  | true => DD.nx (setM l env xs) t1
  | false => False
def zipD : List D → List D → List D
  | a :: l, b :: m => .tup [a, b] :: zipD l m
  | _, _ => []
def iZipD (a b : DE) : DI := fun env t P => a env t fun x t1 => b env t1 fun y t2 => match x, y with
  | .lst l, .lst m => P (zipD l m) t2
  | .tup l, .tup m => P (zipD l m) t2
  | _, _ => False
theorem zipD_get : ∀ (l m : List D) (i : Nat), (zipD l m)[i]? = l[i]?.bind fun a => m[i]?.map fun b => D.tup [a, b]
  | [], m, i => by simp [zipD]
  | a :: l, [], i => by
    simp [zipD]
  | a :: l, b :: m, 0 => by simp [zipD]
  | a :: l, b :: m, i + 1 => by
    show (zipD l m)[i]? = _
    rw [zipD_get l m i]
    simp
theorem zipD_len : ∀ (l m : List D), (zipD l m).length = min l.length m.length
  | [], m => by simp [zipD]
  | a :: l, [] => by simp [zipD]
  | a :: l, b :: m => by
    simp [zipD, zipD_len l m]
end Q
/-! QH1 -/
namespace Q
open PySem L2 PyProof.Rows
/-! ### as the library's data -/
mutual
def toPy : D → PyData
  | .bl b => .bool b | .int i => .int i | .str x => .str x
  | .lst l => .list (toPys l) | .tup l => .tuple (toPys l)
  | _ => .none
def toPys : List D → List PyData
  | [] => []
  | d :: l => toPy d :: toPys l
end
/-! ### the relation of data and values -/
mutual
def RelD (K : PySem.W.Frag) (F : Hp) (pa : Option Addr) : D → V → Prop
  | .non, v => v = .non
  | .bl b, v => v = .bl b
  | .int i, v => v = .int i
  | .str x, v => v = .str x
  | .ty n, v => v = .ty n
  | .adr a, v => v = .ref a
  | .rp d, v => v = .str (toPy d).shown
  | .pen, v => ∃ a, pa = some a ∧ v = .ref a
  | .scr ns, v => ∃ a, v = .ref a ∧ SqL K F a (ns.map V.int)
  | .lst l, v => ∃ a vs, v = .ref a ∧ F a = some (.lst vs) ∧ RelL K F pa l vs
  | .tup l, v => ∃ a vs, v = .ref a ∧ F a = some (.tup vs) ∧ RelL K F pa l vs
  | .dic ks l, v => ∃ a vs, v = .ref a ∧ F a = some (.dK (ks.zip vs)) ∧ ks.length = vs.length ∧ RelL K F pa l vs
  | .ins C ns l, v => ∃ a dx vs, v = .ref a ∧ F a = some (.ins C dx (ns.zip vs)) ∧ ns.length = vs.length ∧ RelL K F pa l vs
def RelL (K : PySem.W.Frag) (F : Hp) (pa : Option Addr) : List D → List V → Prop
  | [], vs => vs = []
  | d :: ds, vs => ∃ v vr, vs = v :: vr ∧ RelD K F pa d v ∧ RelL K F pa ds vr
end
/-- what a name's own object holds -/
def RelO1 (K : PySem.W.Frag) (F : Hp) (pa : Option Addr) : D → HO → Prop
  | .lst l, h => ∃ vs, h = .lst vs ∧ RelL K F pa l vs
  | .dic ks l, h => ∃ vs, h = .dK (ks.zip vs) ∧ ks.length = vs.length ∧ RelL K F pa l vs
  | .ins C ns l, h => ∃ dx vs, h = .ins C dx (ns.zip vs) ∧ ns.length = vs.length ∧ RelL K F pa l vs
  | _, _ => False
def Gf (F F' : Hp) : Prop := ∀ a o, F a = some o → F' a = some o
def Gp (pa pa' : Option Addr) : Prop := pa' = pa
structure Gr (F : Hp) (pa : Option Addr) (F' : Hp) (pa' : Option Addr) : Prop where
  f : Gf F F'
  p : Gp pa pa'
theorem Gr.refl (F : Hp) (pa : Option Addr) : Gr F pa F pa := ⟨fun _ _ h => h, rfl⟩
theorem Gr.trans {F F1 F2 : Hp} {p p1 p2 : Option Addr} (a : Gr F p F1 p1) (b : Gr F1 p1 F2 p2) : Gr F p F2 p2 := ⟨fun x o h => b.f x o (a.f x o h), Eq.trans b.p a.p⟩
section
variable {K : PySem.W.Frag} {F F' : Hp} {pa pa' : Option Addr}
theorem sq_mono {a : Addr} {xs : List V} (g : Gf F F') (h : SqL K F a xs) : SqL K F' a xs := by
  rcases h with (h | ⟨o, h⟩) | h
  · exact .inl (.inl (g _ _ h))
  · exact .inl (.inr ⟨o, g _ _ h⟩)
  · exact .inr h
mutual
theorem RelD.mono (g : Gr F pa F' pa') : ∀ (d : D) (v : V), RelD K F pa d v → RelD K F' pa' d v
  | .non, v, h => by unfold RelD at h ⊢; exact h
  | .bl b, v, h => by unfold RelD at h ⊢; exact h
  | .int i, v, h => by unfold RelD at h ⊢; exact h
  | .str x, v, h => by unfold RelD at h ⊢; exact h
  | .ty n, v, h => by unfold RelD at h ⊢; exact h
  | .adr a, v, h => by unfold RelD at h ⊢; exact h
  | .rp d, v, h => by unfold RelD at h ⊢; exact h
  | .pen, v, h => by
    unfold RelD at h ⊢
    obtain ⟨a, e, r⟩ := h
    exact ⟨a, (show pa' = pa from g.p).trans e, r⟩
  | .scr ns, v, h => by
    unfold RelD at h ⊢
    obtain ⟨a, e, r⟩ := h
    exact ⟨a, e, sq_mono g.f r⟩
  | .lst l, v, h => by
    unfold RelD at h ⊢
    obtain ⟨a, vs, e, r, q⟩ := h
    exact ⟨a, vs, e, g.f _ _ r, RelL.mono g l vs q⟩
  | .tup l, v, h => by
    unfold RelD at h ⊢
    obtain ⟨a, vs, e, r, q⟩ := h
    exact ⟨a, vs, e, g.f _ _ r, RelL.mono g l vs q⟩
  | .dic ks l, v, h => by
    unfold RelD at h ⊢
    obtain ⟨a, vs, e, r, z, q⟩ := h
    exact ⟨a, vs, e, g.f _ _ r, z, RelL.mono g l vs q⟩
  | .ins C ns l, v, h => by
    unfold RelD at h ⊢
    obtain ⟨a, dx, vs, e, r, z, q⟩ := h
    exact ⟨a, dx, vs, e, g.f _ _ r, z, RelL.mono g l vs q⟩
theorem RelL.mono (g : Gr F pa F' pa') : ∀ (l : List D) (vs : List V), RelL K F pa l vs → RelL K F' pa' l vs
  | [], vs, h => by unfold RelL at h ⊢; exact h
  | d :: ds, vs, h => by
    unfold RelL at h ⊢
    obtain ⟨v, vr, e, r, q⟩ := h
    exact ⟨v, vr, e, RelD.mono g d v r, RelL.mono g ds vr q⟩
end
theorem RelO1.mono (g : Gr F pa F' pa') : ∀ (d : D) (h : HO), RelO1 K F pa d h → RelO1 K F' pa' d h
  | .lst l, h, r => by
    obtain ⟨vs, e, q⟩ := r
    exact ⟨vs, e, RelL.mono g l vs q⟩
  | .dic ks l, h, r => by
    obtain ⟨vs, e, z, q⟩ := r
    exact ⟨vs, e, z, RelL.mono g l vs q⟩
  | .ins C ns l, h, r => by
    obtain ⟨dx, vs, e, z, q⟩ := r
    exact ⟨dx, vs, e, z, RelL.mono g l vs q⟩
  | .non, _, r => r.elim
  | .bl _, _, r => r.elim
  | .int _, _, r => r.elim
  | .str _, _, r => r.elim
  | .tup _, _, r => r.elim
  | .pen, _, r => r.elim
  | .ty _, _, r => r.elim
  | .adr _, _, r => r.elim
  | .scr _, _, r => r.elim
  | .rp _, _, r => r.elim
end
section
variable {K : PySem.W.Frag} {F : Hp} {pa : Option Addr}
theorem RelL.nil : RelL K F pa [] [] := by unfold RelL; rfl
theorem RelL.cons {d : D} {v : V} {ds : List D} {vs : List V} (h : RelD K F pa d v) (r : RelL K F pa ds vs) : RelL K F pa (d :: ds) (v :: vs) := by
  unfold RelL; exact ⟨v, vs, rfl, h, r⟩
theorem RelL.inv {d : D} {ds : List D} {vs : List V} (h : RelL K F pa (d :: ds) vs) : ∃ v vr, vs = v :: vr ∧ RelD K F pa d v ∧ RelL K F pa ds vr := by unfold RelL at h; exact h
theorem RelL.inv0 {vs : List V} (h : RelL K F pa [] vs) : vs = [] := by unfold RelL at h; exact h
theorem RelL.len : ∀ {ds : List D} {vs : List V}, RelL K F pa ds vs → vs.length = ds.length
  | [], vs, h => by rw [h.inv0]; rfl
  | d :: ds, vs, h => by
    obtain ⟨v, vr, rfl, _, q⟩ := h.inv
    simp [RelL.len q]
theorem RelL.get : ∀ {ds : List D} {vs : List V} {i : Nat} {d : D}, RelL K F pa ds vs → ds[i]? = some d → ∃ v, vs[i]? = some v ∧ RelD K F pa d v
  | [], _, _, _, _, e => by simp at e
  | x :: ds, vs, 0, d, h, e => by
    obtain ⟨v, vr, rfl, r, _⟩ := h.inv
    simp at e; subst e
    exact ⟨v, rfl, r⟩
  | x :: ds, vs, i + 1, d, h, e => by
    obtain ⟨v, vr, rfl, _, q⟩ := h.inv
    simp at e
    obtain ⟨u, h1, h2⟩ := RelL.get q e
    exact ⟨u, by simpa using h1, h2⟩
theorem RelL.append : ∀ {a b : List D} {u v : List V}, RelL K F pa a u → RelL K F pa b v → RelL K F pa (a ++ b) (u ++ v)
  | [], b, u, v, h, r => by rw [h.inv0]; exact r
  | d :: a, b, u, v, h, r => by
    obtain ⟨x, ur, rfl, h1, q⟩ := h.inv
    exact RelL.cons h1 (RelL.append q r)
theorem RelL.take : ∀ {a : List D} {u : List V} (n : Nat), RelL K F pa a u → RelL K F pa (a.take n) (u.take n)
  | _, _, 0, h => by simpa using RelL.nil
  | [], _, n + 1, h => by rw [h.inv0]; simpa using RelL.nil
  | d :: a, u, n + 1, h => by
    obtain ⟨x, ur, rfl, h1, q⟩ := h.inv
    simpa using RelL.cons h1 (RelL.take n q)
theorem RelL.drop : ∀ {a : List D} {u : List V} (n : Nat), RelL K F pa a u → RelL K F pa (a.drop n) (u.drop n)
  | _, _, 0, h => by simpa using h
  | [], _, n + 1, h => by rw [h.inv0]; simpa using RelL.nil
  | d :: a, u, n + 1, h => by
    obtain ⟨x, ur, rfl, h1, q⟩ := h.inv
    simpa using RelL.drop n q
theorem RelL.reverse : ∀ {a : List D} {u : List V}, RelL K F pa a u → RelL K F pa a.reverse u.reverse
  | [], u, h => by rw [h.inv0]; simpa using RelL.nil
  | d :: a, u, h => by
    obtain ⟨x, ur, rfl, h1, q⟩ := h.inv
    simpa using RelL.append (RelL.reverse q) (RelL.cons h1 RelL.nil)
theorem RelL.set : ∀ {a : List D} {u : List V} (j : Nat) {d : D} {v : V}, RelL K F pa a u → RelD K F pa d v → RelL K F pa (a.set j d) (u.set j v)
  | [], u, j, d, v, h, r => by rw [h.inv0]; simpa using RelL.nil
  | x :: a, u, 0, d, v, h, r => by
    obtain ⟨y, ur, rfl, h1, q⟩ := h.inv
    simpa using RelL.cons r q
  | x :: a, u, j + 1, d, v, h, r => by
    obtain ⟨y, ur, rfl, h1, q⟩ := h.inv
    simpa using RelL.cons h1 (RelL.set j q r)
theorem RelL.rep {a : List D} {u : List V} (h : RelL K F pa a u) : ∀ n : Nat, RelL K F pa (rep n a) (List.replicate n u).flatten
  | 0 => by simpa [Q.rep] using RelL.nil
  | n + 1 => by
    have := RelL.append h (RelL.rep h n)
    simpa [Q.rep, List.replicate_succ] using this
theorem RelL.intsD : ∀ {l : List D} {vs : List V} {ns : List Int}, RelL K F pa l vs → Q.intsD l = some ns → vs = ns.map V.int
  | [], vs, ns, h, e => by
    rw [h.inv0]
    simp [Q.intsD] at e; subst e; rfl
  | d :: l, vs, ns, h, e => by
    obtain ⟨x, ur, rfl, h1, q⟩ := h.inv
    cases d with
    | int i =>
      unfold RelD at h1
      subst h1
      unfold Q.intsD at e
      cases e2 : Q.intsD l with
      | none => rw [e2] at e; simp at e
      | some ms =>
        rw [e2] at e
        simp at e; subst e
        rw [RelL.intsD q e2]; rfl
    | _ => simp [Q.intsD] at e
theorem RelL.bls : ∀ {l : List D} {vs : List V} {ns : List Bool}, RelL K F pa l vs → Q.bls l = some ns → vs = ns.map V.bl
  | [], vs, ns, h, e => by
    rw [h.inv0]
    simp [Q.bls] at e; subst e; rfl
  | d :: l, vs, ns, h, e => by
    obtain ⟨x, ur, rfl, h1, q⟩ := h.inv
    cases d with
    | bl i =>
      unfold RelD at h1
      subst h1
      unfold Q.bls at e
      cases e2 : Q.bls l with
      | none => rw [e2] at e; simp at e
      | some ms =>
        rw [e2] at e
        simp at e; subst e
        rw [RelL.bls q e2]; rfl
    | _ => simp [Q.bls] at e
theorem RelL.of_ints : ∀ (ns : List Int), RelL K F pa (ns.map D.int) (ns.map V.int)
  | [] => RelL.nil
  | n :: ns => RelL.cons (by unfold RelD; rfl) (RelL.of_ints ns)
end
/-! ### the state -/
structure Bs where
  F : Hp
  H : Hp
  ex : List Addr
  pn : Option Addr
  /-- what is told back: a datum, or a new object -/
  m : Bool
  /-- tables of code objects that may grow, with the code objects' name -/
  T : List (Addr × Str)
  /-- objects that may change -/
  O : Addr → Prop
/-- the base of a def's body: what may change is the pen alone, and tables of code objects -/
def Bs.Top (B : Bs) : Prop := ∀ a ∈ B.ex, B.pn = some a ∨ ∃ p ∈ B.T, p.1 = a
/-- the tables: outside of what is frozen, their code objects frozen -/
def TabF (T : List (Addr × Str)) (BH F H : Hp) : Prop := ∀ p ∈ T, BH p.1 ≠ none ∧ F p.1 = none ∧ ∃ ps : Array Value, H p.1 = some (.tbl ps) ∧ TriplesOk ps.toList ∧ ∀ (pos : Pos) (cv : Value), codeAmong pos ps.toList = some cv → ∃ c, cv = .ref c ∧ F c = some (LamX.CodeO c p.2)
theorem TabF.nil {BH F H : Hp} : TabF [] BH F H := fun p hp => by cases hp
theorem TabF.keep {T : List (Addr × Str)} {BH F H F' H' : Hp} (t : TabF T BH F H) (g : ∀ a o, F a = some o → F' a = some o) (hF : ∀ p ∈ T, ∀ ps, H p.1 = some (.tbl ps) → F' p.1 = none) (hH : ∀ p ∈ T, ∀ ps, H p.1 = some (.tbl ps) → H' p.1 = some (.tbl ps)) : TabF T BH F' H' := fun p hp => by
  obtain ⟨h1, h2, ps, h3, h4, h5⟩ := t p hp
  refine ⟨h1, hF p hp ps h3, ps, hH p hp ps h3, h4, fun pos cv hc => ?_⟩
  obtain ⟨c, e, q⟩ := h5 pos cv hc
  exact ⟨c, e, g _ _ q⟩
theorem TabF.hs {T : List (Addr × Str)} {BH F H H' : Hp} (t : TabF T BH F H) (hH : ∀ p ∈ T, ∀ ps, H p.1 = some (.tbl ps) → H' p.1 = some (.tbl ps)) : TabF T BH F H' := t.keep (fun _ _ h => h) (fun p hp _ _ => (t p hp).2.1) hH
theorem RelO1.ntb {K : PySem.W.Frag} {F : Hp} {pa : Option Addr} : ∀ {d : D} {h : HO}, RelO1 K F pa d h → ∀ ps, h ≠ .tbl ps := fun {d h} r ps e => by
  subst e
  cases d with
  | lst l => obtain ⟨_, z, _⟩ := r; cases z
  | dic ks l => obtain ⟨_, z, _⟩ := r; cases z
  | ins C ns l => obtain ⟨_, _, z, _⟩ := r; cases z
  | _ => exact r.elim
def penRows (t : Ts) (ca : Addr) : List (L2.Key × V) := match t.tape with
  | false => [(.inr "cells", .ref ca), (.inr "at", .int t.at'), (.inr "left", .int t.left)]
  | true => [(.inr "cells", .ref ca), (.inr "turn", .int t.at'), (.inr "rest", .int t.left)]
def PenOk (F : Hp) (t : Ts) (h : HO) : Prop := ∃ ca : Addr, h = .dK (penRows t ca) ∧ F ca = some (.lst (t.cells.map V.int))
theorem PenOk.mono {F F' : Hp} {t : Ts} {h : HO} (g : Gf F F') (p : PenOk F t h) : PenOk F' t h := by
  obtain ⟨ca, e, q⟩ := p
  exact ⟨ca, e, g _ _ q⟩
structure Cf (K : PySem.W.Frag) (B : Bs) (F : Hp) (pa : Option Addr) (t : Ts) (env : En) (σ : L2.St) (H : Hp) : Prop where
  len : env.length = σ.length
  sub : ∀ a o, F a = some o → H a = some o
  bas : ∀ a o, B.F a = some o → F a = some o
  frm : ∀ a o, B.H a = some o → a ∉ B.ex → ¬ B.O a → H a = some o
  new : ∀ a o, F a = some o → (∃ o', B.F a = some o') ∨ B.H a = none
  exl : ∀ a ∈ B.ex, ∃ o, H a = some o
  val : ∀ (i : Nat) (d : D), env[i]? = some (Sl.val d) → ∃ v : V, σ[i]? = some (some v) ∧ RelD K F pa d v
  own : ∀ (i : Nat) (d : D), env[i]? = some (Sl.own d) → ∃ (a : Addr) (h : HO), σ[i]? = some (some (V.ref a)) ∧ H a = some h ∧ RelO1 K F pa d h ∧ F a = none ∧ pa ≠ some a ∧ (a ∈ B.ex ∨ B.H a = none)
  sep : ∀ (i j : Nat) (d e : D) (a : Addr), env[i]? = some (Sl.own d) → env[j]? = some (Sl.own e) → σ[i]? = some (some (V.ref a)) → σ[j]? = some (some (V.ref a)) → i = j
  pen : ∀ a, pa = some a → F a = none ∧ (∃ h, H a = some h ∧ PenOk F t h) ∧ (a ∈ B.ex ∨ B.H a = none)
  pnn : Gp B.pn pa
  tab : TabF B.T B.H F H
  ntb : ∀ a ps, F a ≠ some (.tbl ps)
  obs : ∀ a d, t.obs a = some d → F a = none ∧ (∃ h, H a = some h ∧ RelO1 K F pa d h) ∧ pa ≠ some a ∧ (B.O a ∨ B.H a = none) ∧ nopen d = true
  obx : ∀ a, B.O a → ∃ d, t.obs a = some d
  osp : ∀ (i : Nat) (d : D) (a : Addr), env[i]? = some (Sl.own d) → σ[i]? = some (some (V.ref a)) → t.obs a = none
section
variable {K : PySem.W.Frag} {B : Bs} {F : Hp} {pa : Option Addr} {t : Ts} {env : En} {σ : L2.St} {H : Hp}
theorem Cf.fresh (C : Cf K B F pa t env σ H) {p : Addr} (h : H p = none) : F p = none ∧ B.H p = none ∧ p ∉ B.ex := by
  refine ⟨?_, ?_, ?_⟩
  · cases e : F p with
    | none => rfl
    | some o => rw [C.sub p o e] at h; cases h
  · cases e : B.H p with
    | none => rfl
    | some o =>
      by_cases hp : p ∈ B.ex
      · obtain ⟨o', q⟩ := C.exl p hp
        rw [q] at h; cases h
      · rw [C.frm p o e hp fun z => by
          obtain ⟨d, q⟩ := C.obx p z
          obtain ⟨_, ⟨u, q2, _⟩, _⟩ := C.obs p d q
          rw [h] at q2; cases q2] at h
        cases h
  · intro hp
    obtain ⟨o', q⟩ := C.exl p hp
    rw [q] at h; cases h
theorem Gf.upd {F : Hp} {p : Addr} {o : HO} (h : F p = none) : Gf F (upd F p o) := fun a u e => by
  rw [upd_ne (ne_of_none e h)]; exact e
/-- a new object, frozen at once -/
theorem Cf.alloc (C : Cf K B F pa t env σ H) {p : Addr} (o : HO) (h : H p = none) (hno : ∀ ps, o ≠ .tbl ps := by intro ps z; cases z) : Gr F pa (upd F p o) pa ∧ Cf K B (upd F p o) pa t env σ (upd H p o) := by
  obtain ⟨hF, hB, hex⟩ := C.fresh h
  have g : Gr F pa (upd F p o) pa := ⟨Gf.upd hF, rfl⟩
  have ne : ∀ {a : Addr} {u : HO}, H a = some u → a ≠ p := fun e => ne_of_none e h
  refine ⟨g, ⟨C.len, fun a u e => ?_, fun a u e => g.f _ _ (C.bas a u e), fun a u e hx ho => ?_, fun a u e => ?_, fun a ha => ?_, fun i d e => ?_, fun i d e => ?_, C.sep, fun a e => ?_, C.pnn, C.tab.keep g.f (fun q hq ps e => by rw [upd_ne (ne e)]; exact (C.tab q hq).2.1) (fun q hq ps e => by rw [upd_ne (ne e)]; exact e), fun a ps e => by
    by_cases ha : a = p
    · subst ha; rw [upd_same] at e; exact hno ps (Option.some.inj e)
    · rw [upd_ne ha] at e; exact C.ntb a ps e, fun a d e => by
    obtain ⟨h1, ⟨u, h2, h3⟩, h4⟩ := C.obs a d e
    exact ⟨by rw [upd_ne (ne h2)]; exact h1, ⟨u, by rw [upd_ne (ne h2)]; exact h2, RelO1.mono g d u h3⟩, h4⟩, C.obx, C.osp⟩⟩
  · by_cases ha : a = p
    · subst ha; rw [upd_same] at e ⊢; exact e
    · rw [upd_ne ha] at e ⊢; exact C.sub a u e
  · have := C.frm a u e hx ho
    rw [upd_ne (ne this)]; exact this
  · by_cases ha : a = p
    · subst ha; exact .inr hB
    · rw [upd_ne ha] at e; exact C.new a u e
  · obtain ⟨u, q⟩ := C.exl a ha
    exact ⟨u, by rw [upd_ne (ne q)]; exact q⟩
  · obtain ⟨v, h1, h2⟩ := C.val i d e
    exact ⟨v, h1, RelD.mono g d v h2⟩
  · obtain ⟨a, u, h1, h2, h3, h4, h5, h6⟩ := C.own i d e
    exact ⟨a, u, h1, by rw [upd_ne (ne h2)]; exact h2, RelO1.mono g d u h3, by rw [upd_ne (ne h2)]; exact h4, h5, h6⟩
  · obtain ⟨h1, ⟨u, h2, h3⟩, h4⟩ := C.pen a e
    exact ⟨by rw [upd_ne (ne h2)]; exact h1, ⟨u, by rw [upd_ne (ne h2)]; exact h2, h3.mono g.f⟩, h4⟩
/-- a new object, nobody's yet: the state stands -/
theorem Cf.loose (C : Cf K B F pa t env σ H) {p : Addr} (o : HO) (h : H p = none) : Cf K B F pa t env σ (upd H p o) := by
  have ne : ∀ {a : Addr} {u : HO}, H a = some u → a ≠ p := fun e => ne_of_none e h
  have kp : ∀ a u, H a = some u → upd H p o a = some u := fun a u e => by rw [upd_ne (ne e)]; exact e
  refine ⟨C.len, fun a u e => kp _ _ (C.sub a u e), C.bas, fun a u e hx ho => kp _ _ (C.frm a u e hx ho), C.new, fun a ha => ?_, C.val, fun i d e => ?_, C.sep, fun a e => ?_, C.pnn, C.tab.hs (fun q _ ps e => kp _ _ e), C.ntb, fun a d e => by
    obtain ⟨h1, ⟨u, h2, h3⟩, h4⟩ := C.obs a d e
    exact ⟨h1, ⟨u, kp _ _ h2, h3⟩, h4⟩, C.obx, C.osp⟩
  · obtain ⟨u, q⟩ := C.exl a ha
    exact ⟨u, kp _ _ q⟩
  · obtain ⟨a, u, h1, h2, h3⟩ := C.own i d e
    exact ⟨a, u, h1, kp _ _ h2, h3⟩
  · obtain ⟨h1, ⟨u, h2, h3⟩, h4⟩ := C.pen a e
    exact ⟨h1, ⟨u, kp _ _ h2, h3⟩, h4⟩
/-- an address that is nobody's yet -/
structure Nw (B : Bs) (F : Hp) (pa : Option Addr) (t : Ts) (env : En) (σ : L2.St) (p : Addr) : Prop where
  f : F p = none
  b : B.H p = none
  a : pa ≠ some p
  s : ∀ (j : Nat) (e : D), env[j]? = some (Sl.own e) → σ[j]? ≠ some (some (V.ref p))
  o : t.obs p = none
theorem Cf.noob (C : Cf K B F pa t env σ H) {p : Addr} (h : H p = none) : t.obs p = none := by
  cases q : t.obs p with
  | none => rfl
  | some d =>
    obtain ⟨_, ⟨u, q2, _⟩, _⟩ := C.obs p d q
    rw [h] at q2; cases q2
theorem Cf.nw (C : Cf K B F pa t env σ H) {p : Addr} (h : H p = none) : Nw B F pa t env σ p := by
  obtain ⟨hF, hB, _⟩ := C.fresh h
  refine ⟨hF, hB, fun e => ?_, fun j e hj hs => ?_, C.noob h⟩
  · obtain ⟨_, ⟨u, q, _⟩, _⟩ := C.pen p e
    rw [h] at q; cases q
  · obtain ⟨a, u, h1, h2, _⟩ := C.own j e hj
    rw [hs] at h1
    cases h1
    rw [h] at h2; cases h2
/-- a nobody's object is frozen -/
theorem Cf.frz (C : Cf K B F pa t env σ H) {p : Addr} {h : HO} (n : Nw B F pa t env σ p) (e : H p = some h) (hno : ∀ ps, h ≠ .tbl ps) : Gr F pa (upd F p h) pa ∧ Cf K B (upd F p h) pa t env σ H := by
  have g : Gr F pa (upd F p h) pa := ⟨Gf.upd n.f, rfl⟩
  refine ⟨g, ⟨C.len, fun a u q => ?_, fun a u q => g.f _ _ (C.bas a u q), C.frm, fun a u q => ?_, C.exl, fun i d q => ?_, fun i d q => ?_, C.sep, fun a q => ?_, C.pnn, C.tab.keep g.f (fun q hq ps z => by rw [upd_ne (fun y => (C.tab q hq).1 (by rw [y]; exact n.b))]; exact (C.tab q hq).2.1) (fun _ _ _ z => z), fun a ps z => by
    by_cases ha : a = p
    · subst ha; rw [upd_same] at z; exact hno ps (Option.some.inj z)
    · rw [upd_ne ha] at z; exact C.ntb a ps z, fun a d q => by
    obtain ⟨h1, ⟨u, h2, h3⟩, h4⟩ := C.obs a d q
    refine ⟨?_, ⟨u, h2, RelO1.mono g d u h3⟩, h4⟩
    rw [upd_ne ?_]
    · exact h1
    · rintro rfl
      rw [n.o] at q; exact (nomatch q), C.obx, C.osp⟩⟩
  · by_cases ha : a = p
    · subst ha; rw [upd_same] at q; cases q; exact e
    · rw [upd_ne ha] at q; exact C.sub a u q
  · by_cases ha : a = p
    · subst ha; exact .inr n.b
    · rw [upd_ne ha] at q; exact C.new a u q
  · obtain ⟨v, h1, h2⟩ := C.val i d q
    exact ⟨v, h1, RelD.mono g d v h2⟩
  · obtain ⟨a, u, h1, h2, h3, h4, h5, h6⟩ := C.own i d q
    refine ⟨a, u, h1, h2, RelO1.mono g d u h3, ?_, h5, h6⟩
    rw [upd_ne ?_]
    · exact h4
    · rintro rfl
      exact n.s i d q h1
  · obtain ⟨h1, ⟨u, h2, h3⟩, h4⟩ := C.pen a q
    refine ⟨?_, ⟨u, h2, h3.mono g.f⟩, h4⟩
    rw [upd_ne ?_]
    · exact h1
    · rintro rfl
      exact n.a q
/-- a nobody's object is written -/
theorem Cf.write (C : Cf K B F pa t env σ H) {p : Addr} {h : HO} (n : Nw B F pa t env σ p) : Cf K B F pa t env σ (upd H p h) := by
  refine ⟨C.len, fun a u q => ?_, C.bas, fun a u q hx ho => ?_, C.new, fun a ha => ?_, C.val, fun i d q => ?_, C.sep, fun a q => ?_, C.pnn, C.tab.hs (fun q hq ps z => by rw [upd_ne (fun y => (C.tab q hq).1 (by rw [y]; exact n.b))]; exact z), C.ntb, fun a d q => by
    obtain ⟨h1, ⟨u, h2, h3⟩, h4⟩ := C.obs a d q
    refine ⟨h1, ⟨u, ?_, h3⟩, h4⟩
    rw [upd_ne ?_]
    · exact h2
    · rintro rfl
      rw [n.o] at q; exact (nomatch q), C.obx, C.osp⟩
  · rw [upd_ne (ne_of_none q n.f)]; exact C.sub a u q
  · rw [upd_ne (ne_of_none q n.b)]; exact C.frm a u q hx ho
  · obtain ⟨u, q⟩ := C.exl a ha
    by_cases hb : a = p
    · subst hb; exact ⟨h, upd_same⟩
    · exact ⟨u, by rw [upd_ne hb]; exact q⟩
  · obtain ⟨a, u, h1, h2, r⟩ := C.own i d q
    refine ⟨a, u, h1, ?_, r⟩
    rw [upd_ne ?_]
    · exact h2
    · rintro rfl
      exact n.s i d q h1
  · obtain ⟨h1, ⟨u, h2, h3⟩, h4⟩ := C.pen a q
    refine ⟨h1, ⟨u, ?_, h3⟩, h4⟩
    rw [upd_ne ?_]
    · exact h2
    · rintro rfl
      exact n.a q
/-- what a new datum is -/
theorem RelO1.rel {d : D} {h : HO} {p : Addr} (r : RelO1 K F pa d h) (e : F p = some h) : RelD K F pa d (.ref p) := by
  cases d with
  | lst l =>
    obtain ⟨vs, rfl, q⟩ := r
    unfold RelD; exact ⟨p, vs, rfl, e, q⟩
  | dic ks l =>
    obtain ⟨vs, rfl, z, q⟩ := r
    unfold RelD; exact ⟨p, vs, rfl, e, z, q⟩
  | ins C ns l =>
    obtain ⟨dx, vs, rfl, z, q⟩ := r
    unfold RelD; exact ⟨p, dx, vs, rfl, e, z, q⟩
  | _ => exact r.elim
theorem get_set {α : Type} {l : List α} {i j : Nat} {x y : α} (h : (l.set i x)[j]? = some y) : (i = j ∧ y = x) ∨ (i ≠ j ∧ l[j]? = some y) := by
  by_cases e : i = j
  · subst e
    left
    rw [List.getElem?_set_self'] at h
    cases q : l[i]? with
    | none => rw [q] at h; simp at h
    | some z => rw [q] at h; simp at h; exact ⟨rfl, h.symm⟩
  · right
    rw [List.getElem?_set_ne e] at h
    exact ⟨e, h⟩
/-- a name is given a datum -/
theorem Cf.setV (C : Cf K B F pa t env σ H) (i : Nat) {d : D} {v : V} (r : RelD K F pa d v) : Cf K B F pa t (env.set i (.val d)) (σ.set i (some v)) H := by
  refine ⟨by simp [C.len], C.sub, C.bas, C.frm, C.new, C.exl, fun j e q => ?_, fun j e q => ?_, fun j k e f a q1 q2 s1 s2 => ?_, C.pen, C.pnn, C.tab, C.ntb, C.obs, C.obx, fun j e a q s => by
    rcases get_set q with ⟨_, z⟩ | ⟨ne, z⟩
    · cases z
    · rw [List.getElem?_set_ne ne] at s
      exact C.osp j e a z s⟩
  · rcases get_set q with ⟨rfl, z⟩ | ⟨ne, z⟩
    · cases z
      have hi : i < env.length := by
        have := (List.getElem?_eq_some_iff.mp q).1
        simpa using this
      exact ⟨v, by rw [List.getElem?_set_self (by rw [← C.len]; exact hi)], r⟩
    · obtain ⟨w, h1, h2⟩ := C.val j e z
      exact ⟨w, by rw [List.getElem?_set_ne ne]; exact h1, h2⟩
  · rcases get_set q with ⟨rfl, z⟩ | ⟨ne, z⟩
    · cases z
    · obtain ⟨a, u, h1, h2⟩ := C.own j e z
      exact ⟨a, u, by rw [List.getElem?_set_ne ne]; exact h1, h2⟩
  · rcases get_set q1 with ⟨_, z⟩ | ⟨n1, z1⟩
    · cases z
    · rcases get_set q2 with ⟨_, z⟩ | ⟨n2, z2⟩
      · cases z
      · rw [List.getElem?_set_ne n1] at s1
        rw [List.getElem?_set_ne n2] at s2
        exact C.sep j k e f a z1 z2 s1 s2
/-- a name is given a new object of its own -/
theorem Cf.setN (C : Cf K B F pa t env σ H) (i : Nat) {d : D} {p : Addr} {h : HO} (n : Nw B F pa t env σ p) (e : H p = some h) (r : RelO1 K F pa d h) : Cf K B F pa t (env.set i (.own d)) (σ.set i (some (.ref p))) H := by
  refine ⟨by simp [C.len], C.sub, C.bas, C.frm, C.new, C.exl, fun j e q => ?_, fun j e' q => ?_, fun j k e' f a q1 q2 s1 s2 => ?_, C.pen, C.pnn, C.tab, C.ntb, C.obs, C.obx, fun j e a q s => by
    rcases get_set q with ⟨rfl, z⟩ | ⟨ne, z⟩
    · rcases get_set s with ⟨_, zz⟩ | ⟨nn, _⟩
      · cases zz; exact n.o
      · exact absurd rfl nn
    · rw [List.getElem?_set_ne ne] at s
      exact C.osp j e a z s⟩
  · rcases get_set q with ⟨rfl, z⟩ | ⟨ne, z⟩
    · cases z
    · obtain ⟨w, h1, h2⟩ := C.val j e z
      exact ⟨w, by rw [List.getElem?_set_ne ne]; exact h1, h2⟩
  · rcases get_set q with ⟨rfl, z⟩ | ⟨ne, z⟩
    · cases z
      have hi : i < env.length := by
        have := (List.getElem?_eq_some_iff.mp q).1
        simpa using this
      exact ⟨p, h, by rw [List.getElem?_set_self (by rw [← C.len]; exact hi)], e, r, n.f, n.a, .inr n.b⟩
    · obtain ⟨a, u, h1, h2⟩ := C.own j e' z
      exact ⟨a, u, by rw [List.getElem?_set_ne ne]; exact h1, h2⟩
  · rcases get_set q1 with ⟨rfl, z⟩ | ⟨n1, z1⟩
    · rcases get_set q2 with ⟨rfl, z'⟩ | ⟨n2, z2⟩
      · rfl
      · rw [List.getElem?_set_ne n2] at s2
        rcases get_set s1 with ⟨_, zz⟩ | ⟨nn, _⟩
        · cases zz
          exact absurd s2 (n.s k f z2)
        · exact absurd rfl nn
    · rw [List.getElem?_set_ne n1] at s1
      rcases get_set q2 with ⟨rfl, z'⟩ | ⟨n2, z2⟩
      · rcases get_set s2 with ⟨_, zz⟩ | ⟨nn, _⟩
        · cases zz
          exact absurd s1 (n.s j e' z1)
        · exact absurd rfl nn
      · rw [List.getElem?_set_ne n2] at s2
        exact C.sep j k e' f a z1 z2 s1 s2
/-- a name's own object is written -/
theorem Cf.wrO (C : Cf K B F pa t env σ H) {i : Nat} {d d' : D} {a : Addr} {h : HO} (hi : env[i]? = some (Sl.own d)) (hs : σ[i]? = some (some (V.ref a))) (r : RelO1 K F pa d' h) : Cf K B F pa t (env.set i (.own d')) σ (upd H a h) := by
  obtain ⟨a', h0, s0, e0, r0, f0, p0, x0⟩ := C.own i d hi
  rw [hs] at s0; cases s0
  have nb : ∀ {c : Addr} {u : HO}, F c = some u → c ≠ a := fun e => ne_of_none e f0
  refine ⟨by simp [C.len], fun c u q => by rw [upd_ne (nb q)]; exact C.sub c u q, C.bas, fun c u q hx ho => ?_, C.new, fun c hc => ?_, fun j e q => ?_, fun j e q => ?_, fun j k e f c q1 q2 s1 s2 => ?_, fun c q => ?_, C.pnn, C.tab.hs (fun p _ ps z => by rw [upd_ne (fun y => by rw [y, e0] at z; exact r0.ntb ps (Option.some.inj z))]; exact z), C.ntb, fun c d q => by
    obtain ⟨h1, ⟨u, h2, h3⟩, h4⟩ := C.obs c d q
    refine ⟨h1, ⟨u, ?_, h3⟩, h4⟩
    rw [upd_ne ?_]
    · exact h2
    · rintro rfl
      rw [C.osp i _ c hi hs] at q; exact (nomatch q), C.obx, fun j e c q s => by
    rcases get_set q with ⟨rfl, _⟩ | ⟨_, z⟩
    · exact C.osp i d c hi s
    · exact C.osp j e c z s⟩
  · rw [upd_ne ?_]
    · exact C.frm c u q hx ho
    · rintro rfl
      rcases x0 with z | z
      · exact hx z
      · rw [z] at q; cases q
  · by_cases hc' : c = a
    · subst hc'; exact ⟨h, upd_same⟩
    · obtain ⟨u, q⟩ := C.exl c hc
      exact ⟨u, by rw [upd_ne hc']; exact q⟩
  · rcases get_set q with ⟨rfl, z⟩ | ⟨ne, z⟩
    · cases z
    · exact C.val j e z
  · rcases get_set q with ⟨rfl, z⟩ | ⟨ne, z⟩
    · cases z
      exact ⟨a, h, hs, upd_same, r, f0, p0, x0⟩
    · obtain ⟨c, u, h1, h2, h3⟩ := C.own j e z
      refine ⟨c, u, h1, ?_, h3⟩
      rw [upd_ne ?_]
      · exact h2
      · rintro rfl
        exact ne (C.sep i j d e c hi z hs h1)
  · have z1 : ∃ e', env[j]? = some (Sl.own e') := by
      rcases get_set q1 with ⟨rfl, _⟩ | ⟨_, z⟩
      · exact ⟨d, hi⟩
      · exact ⟨e, z⟩
    have z2 : ∃ e', env[k]? = some (Sl.own e') := by
      rcases get_set q2 with ⟨rfl, _⟩ | ⟨_, z⟩
      · exact ⟨d, hi⟩
      · exact ⟨f, z⟩
    obtain ⟨e1, z1⟩ := z1
    obtain ⟨e2, z2⟩ := z2
    exact C.sep j k e1 e2 c z1 z2 s1 s2
  · obtain ⟨h1, ⟨u, h2, h3⟩, h4⟩ := C.pen c q
    refine ⟨h1, ⟨u, ?_, h3⟩, h4⟩
    rw [upd_ne ?_]
    · exact h2
    · rintro rfl
      exact p0 q
/-- a name's own object is written no more -/
theorem Cf.frzO (C : Cf K B F pa t env σ H) (hB : B.Top) {i : Nat} {d : D} (hi : env[i]? = some (Sl.own d)) : ∃ F', Gr F pa F' pa ∧ Cf K B F' pa t (env.set i (.val d)) σ H := by
  obtain ⟨a, h, hs, e, r, f0, p0, x0⟩ := C.own i d hi
  have hb : B.H a = none := by
    rcases x0 with z | z
    · rcases hB a z with y | ⟨p, hp, y⟩
      · exact absurd ((show pa = B.pn from C.pnn).trans y) p0
      · obtain ⟨_, _, ps, q, _⟩ := C.tab p hp
        rw [y, e] at q
        exact absurd (Option.some.inj q) (r.ntb ps)
    · exact z
  have hl : i < env.length := (List.getElem?_eq_some_iff.mp hi).1
  have C1 : Cf K B F pa t (env.set i .no) σ H := by
    refine ⟨by simp [C.len], C.sub, C.bas, C.frm, C.new, C.exl, fun j e q => ?_, fun j e q => ?_, fun j k e f c q1 q2 => ?_, C.pen, C.pnn, C.tab, C.ntb, C.obs, C.obx, fun j e c q s => by
      rcases get_set q with ⟨_, z⟩ | ⟨_, z⟩
      · cases z
      · exact C.osp j e c z s⟩
    · rcases get_set q with ⟨rfl, z⟩ | ⟨ne, z⟩
      · cases z
      · exact C.val j e z
    · rcases get_set q with ⟨rfl, z⟩ | ⟨ne, z⟩
      · cases z
      · exact C.own j e z
    · rcases get_set q1 with ⟨_, z⟩ | ⟨n1, z1⟩
      · cases z
      · rcases get_set q2 with ⟨_, z⟩ | ⟨n2, z2⟩
        · cases z
        · exact C.sep j k e f c z1 z2
  have n : Nw B F pa t (env.set i .no) σ a := by
    refine ⟨f0, hb, p0, fun j e' q s1 => ?_, C.osp i d a hi hs⟩
    rcases get_set q with ⟨_, z⟩ | ⟨ne, z⟩
    · cases z
    · exact ne (C.sep i j d e' a hi z hs s1)
  obtain ⟨g, C2⟩ := C1.frz n e r.ntb
  have C3 := C2.setV i (RelO1.rel (p := a) (RelO1.mono g d h r) upd_same)
  rw [List.set_set] at C3
  have hσ : σ.set i (some (V.ref a)) = σ := by
    apply List.ext_getElem?
    intro j
    by_cases hj : i = j
    · subst hj
      rw [List.getElem?_set_self (by rw [← C.len]; exact hl), hs]
    · rw [List.getElem?_set_ne hj]
  rw [hσ] at C3
  exact ⟨_, g, C3⟩
/-- forgetting -/
theorem Cf.nil (C : Cf K B F pa t env σ H) : Cf K B F pa t [] [] H :=
  ⟨rfl, C.sub, C.bas, C.frm, C.new, C.exl, fun i d e => by simp at e, fun i d e => by simp at e, fun i j d e a q => by simp at q, C.pen, C.pnn, C.tab, C.ntb, C.obs, C.obx, fun i d a e => by simp at e⟩
/-! ### calls: the base of a callee -/
def B0 (F : Hp) (pa : Option Addr) (t : Ts) (H : Hp) : Bs := ⟨F, H, pa.toList, pa, false, [], t.dom⟩
def B1 (F : Hp) (pa : Option Addr) (t : Ts) (H : Hp) : Bs := ⟨F, H, pa.toList, pa, true, [], t.dom⟩
theorem B0.top (F : Hp) (pa : Option Addr) (t : Ts) (H : Hp) : (B0 F pa t H).Top := fun a h => .inl (by
  show pa = some a
  have h : a ∈ pa.toList := h
  cases pa with
  | none => simp at h
  | some b => simp at h; rw [h])
theorem B1.top (F : Hp) (pa : Option Addr) (t : Ts) (H : Hp) : (B1 F pa t H).Top := B0.top F pa t H
/-- the mode is nothing to the state -/
theorem Cf.cong {B' : Bs} (C : Cf K B F pa t env σ H) (h1 : B'.F = B.F) (h2 : B'.H = B.H) (h3 : B'.ex = B.ex) (h4 : B'.pn = B.pn) (h5 : B'.T = B.T) (h6 : B'.O = B.O := by rfl) : Cf K B' F pa t env σ H := by
  obtain ⟨F1, H1, e1, p1, m1, T1, O1⟩ := B
  obtain ⟨F2, H2, e2, p2, m2, T2, O2⟩ := B'
  cases h1; cases h2; cases h3; cases h4; cases h5; cases h6
  exact ⟨C.len, C.sub, C.bas, C.frm, C.new, C.exl, C.val, C.own, C.sep, C.pen, C.pnn, C.tab, C.ntb, C.obs, C.obx, C.osp⟩
theorem mem_pa {pa : Option Addr} {a : Addr} : a ∈ pa.toList ↔ pa = some a := by
  cases pa with
  | none => simp
  | some b => simp [eq_comm]
theorem Cf.call (C : Cf K B F pa t env σ H) : Cf K (B0 F pa t H) F pa t [] [] H := by
  refine ⟨rfl, C.sub, fun _ _ e => e, fun _ _ e _ _ => e, fun a o e => .inl ⟨o, e⟩, fun a ha => ?_, fun i d e => by simp at e, fun i d e => by simp at e, fun i j d e a q => by simp at q, fun a e => ?_, rfl, TabF.nil, C.ntb, fun a d e => by
    obtain ⟨h1, h2, h3, _, h5⟩ := C.obs a d e
    exact ⟨h1, h2, h3, .inl ⟨d, e⟩, h5⟩, fun a e => e, fun i d a e => by simp at e⟩
  · have q : pa = some a := mem_pa.mp ha
    obtain ⟨_, ⟨h, q, _⟩, _⟩ := C.pen a q
    exact ⟨h, q⟩
  · obtain ⟨h1, h2, _⟩ := C.pen a e
    exact ⟨h1, h2, .inl (mem_pa.mpr e)⟩
theorem Cf.after {F' : Hp} {pa' : Option Addr} {t' : Ts} {H' : Hp} (C : Cf K B F pa t env σ H) (C' : Cf K (B0 F pa t H) F' pa' t' [] [] H') : Gr F pa F' pa' ∧ Cf K B F' pa' t' env σ H' := by
  have g : Gr F pa F' pa' := ⟨C'.bas, C'.pnn⟩
  have kp : ∀ a o, H a = some o → pa ≠ some a → t.obs a = none → H' a = some o := fun a o e n no => C'.frm a o e (fun z => n (mem_pa.mp z)) (fun ⟨d, z⟩ => by rw [no] at z; cases z)
  have al : ∀ a o, H a = some o → ∃ o', H' a = some o' := fun a o e => by
    by_cases hp : pa = some a
    · obtain ⟨_, ⟨h, q, _⟩, _⟩ := C'.pen a ((show pa' = pa from g.p).trans hp)
      exact ⟨h, q⟩
    · cases q : t.obs a with
      | none => exact ⟨o, kp a o e hp q⟩
      | some d =>
        obtain ⟨d', q'⟩ := C'.obx a ⟨d, q⟩
        obtain ⟨_, ⟨u, z, _⟩, _⟩ := C'.obs a d' q'
        exact ⟨u, z⟩
  have nf : ∀ a o, H a = some o → F a = none → F' a = none := fun a o e n => by
    cases q : F' a with
    | none => rfl
    | some u =>
      rcases C'.new a u q with ⟨u', z⟩ | z
      · have z : F a = some u' := z
        rw [n] at z; cases z
      · have z : H a = none := z
        rw [e] at z; cases z
  refine ⟨g, ⟨C.len, C'.sub, fun a o e => g.f _ _ (C.bas a o e), fun a o e hx ho => ?_, fun a o e => ?_, fun a ha => ?_, fun i d e => ?_, fun i d e => ?_, C.sep, fun a e => ?_, (show pa' = pa from g.p).trans C.pnn, C.tab.keep g.f (fun p hp ps z => nf _ _ z (C.tab p hp).2.1) (fun p hp ps z => kp _ _ z (fun y => by
    obtain ⟨_, ⟨u, q, ca, w, _⟩, _⟩ := C.pen p.1 y
    rw [z] at q
    subst w
    cases q) (by
    cases q : t.obs p.1 with
    | none => rfl
    | some d =>
      obtain ⟨_, ⟨u, q2, r⟩, _⟩ := C.obs p.1 d q
      rw [z] at q2
      exact absurd (Option.some.inj q2).symm (r.ntb ps))), C'.ntb, fun a d q => ?_, fun a q => C'.obx a (C.obx a q), fun i d a e s => ?_⟩⟩
  · refine kp a o (C.frm a o e hx ho) (fun z => ?_) ?_
    · rcases (C.pen a z).2.2 with q | q
      · exact hx q
      · rw [q] at e; cases e
    · cases q : t.obs a with
      | none => rfl
      | some d =>
        rcases (C.obs a d q).2.2.2.1 with z | z
        · exact absurd z ho
        · rw [z] at e; cases e
  · rcases C'.new a o e with ⟨o', q⟩ | q
    · exact C.new a o' q
    · exact .inr (C.fresh q).2.1
  · obtain ⟨o, q⟩ := C.exl a ha
    exact al a o q
  · obtain ⟨v, h1, h2⟩ := C.val i d e
    exact ⟨v, h1, RelD.mono g d v h2⟩
  · obtain ⟨a, h, h1, h2, h3, h4, h5, h6⟩ := C.own i d e
    refine ⟨a, h, h1, kp a h h2 h5 (C.osp i d a e h1), RelO1.mono g d h h3, ?_, fun z => ?_, h6⟩
    · cases q : F' a with
      | none => rfl
      | some o =>
        rcases C'.new a o q with ⟨o', z⟩ | z
        · have z : F a = some o' := z
          rw [h4] at z; cases z
        · have z : H a = none := z
          rw [h2] at z; cases z
    · rcases (C'.pen a z).2.2 with q | q
      · exact h5 (mem_pa.mp q)
      · have q : H a = none := q
        rw [h2] at q; cases q
  · obtain ⟨h1, h2, h3⟩ := C'.pen a e
    refine ⟨h1, h2, ?_⟩
    rcases h3 with q | q
    · exact (C.pen a (mem_pa.mp q)).2.2
    · exact .inr (C.fresh q).2.1
  · obtain ⟨h1, h2, h3, h4, h5⟩ := C'.obs a d q
    refine ⟨h1, h2, h3, ?_, h5⟩
    rcases h4 with ⟨d0, z⟩ | z
    · exact (C.obs a d0 z).2.2.2.1
    · exact .inr (C.fresh z).2.1
  · cases q : t'.obs a with
    | none => rfl
    | some d' =>
      rcases (C'.obs a d' q).2.2.2.1 with ⟨d0, z⟩ | z
      · rw [C.osp i d a e s] at z; cases z
      · obtain ⟨a', h, h1, h2, _⟩ := C.own i d e
        rw [s] at h1; cases h1
        have z : H a = none := z
        rw [h2] at z; cases z
/-- objects forgotten -/
theorem Cf.bare (C : Cf K B F pa t env σ H) : Cf K (B0 F pa t.bare H) F pa t.bare [] [] H := by
  refine ⟨rfl, C.sub, fun _ _ e => e, fun _ _ e _ _ => e, fun a o e => .inl ⟨o, e⟩, fun a ha => ?_, fun i d e => by simp at e, fun i d e => by simp at e, fun i j d e a q => by simp at q, fun a e => ?_, rfl, TabF.nil, C.ntb, fun a d e => (nomatch e), fun a e => e, fun i d a e => by simp at e⟩
  · have q : pa = some a := mem_pa.mp ha
    obtain ⟨_, ⟨h, q, _⟩, _⟩ := C.pen a q
    exact ⟨h, q⟩
  · obtain ⟨h1, h2, _⟩ := C.pen a e
    exact ⟨h1, h2, .inl (mem_pa.mpr e)⟩
/-- .. and worn again -/
theorem Cf.wear {F' : Hp} {pa' : Option Addr} {t' : Ts} {H' : Hp} (C : Cf K B F pa t env σ H) (C' : Cf K (B0 F pa t.bare H) F' pa' t' [] [] H') : Gr F pa F' pa' ∧ Cf K B F' pa' (t'.wear t.obs) env σ H' := by
  have g : Gr F pa F' pa' := ⟨C'.bas, C'.pnn⟩
  have kp : ∀ a o, H a = some o → pa ≠ some a → H' a = some o := fun a o e n => C'.frm a o e (fun z => n (mem_pa.mp z)) (fun ⟨d, z⟩ => by cases z)
  have nf : ∀ a o, H a = some o → F a = none → F' a = none := fun a o e n => by
    cases q : F' a with
    | none => rfl
    | some u =>
      rcases C'.new a u q with ⟨u', z⟩ | z
      · have z : F a = some u' := z
        rw [n] at z; cases z
      · have z : H a = none := z
        rw [e] at z; cases z
  have C1 : Cf K (B0 F pa t H) F' pa' (t'.wear t.obs) [] [] H' := ⟨rfl, C'.sub, C'.bas, fun a o e n _ => kp a o e (fun z => n (mem_pa.mpr z)), C'.new, C'.exl, C'.val, C'.own, C'.sep, C'.pen, C'.pnn, TabF.nil, C'.ntb, fun a d q => by
    obtain ⟨h1, ⟨u, h2, h3⟩, h4, _, h5⟩ := C.obs a d q
    exact ⟨nf a u h2 h1, ⟨u, kp a u h2 h4, RelO1.mono g d u h3⟩, fun z => h4 ((show pa' = pa from g.p).symm.trans z), .inl ⟨d, q⟩, h5⟩, fun a q => q, fun i d a e => by simp at e⟩
  exact C.after C1
end
end Q
/-! QH2 -/
namespace Q
open PySem L2 PyProof.Rows
/-! ### the judgements -/
section
variable (K : PySem.W.Frag) (B : Bs)
def teOf (de : DE) : TE := fun σ H Q => ∃ F pa t env P, Cf K B F pa t env σ H ∧ de env t P ∧
  ∀ v d F' pa' t' H', Gr F pa F' pa' → Cf K B F' pa' t' env σ H' → RelD K F' pa' d v → P d t' → Q v H'
/-- read alone: a datum, or what a name's own object holds -/
def RelX (F : Hp) (pa : Option Addr) (env : En) (σ : L2.St) (d : D) (v : V) : Prop := RelD K F pa d v ∨ ∃ i : Nat, env[i]? = some (Sl.own d) ∧ σ[i]? = some (some v)
def tvOf (de : DE) : TE := fun σ H Q => ∃ F pa t env P, Cf K B F pa t env σ H ∧ de env t P ∧
  ∀ v d F' pa' t' H', Gr F pa F' pa' → Cf K B F' pa' t' env σ H' → RelX K F' pa' env σ d v → P d t' → Q v H'
/-- a new object -/
def tnOf (de : DE) : TE := fun σ H Q => ∃ F pa t env P, Cf K B F pa t env σ H ∧ de env t P ∧
  ∀ p h d F' pa' t' H', Gr F pa F' pa' → Cf K B F' pa' t' env σ H' → Nw B F' pa' t' env σ p → H' p = some h → RelO1 K F' pa' d h → P d t' → Q (.ref p) H'
def ttOf (dt : DT) : TT := fun σ H Q => ∃ F pa t env P, Cf K B F pa t env σ H ∧ dt env t P ∧
  ∀ k F' pa' t' H', Gr F pa F' pa' → Cf K B F' pa' t' env σ H' → P k t' → Q k H'
def taOf (da : DA) : TA := fun σ H Q => ∃ F pa t env P, Cf K B F pa t env σ H ∧ da env t P ∧
  ∀ vs ds F' pa' t' H', Gr F pa F' pa' → Cf K B F' pa' t' env σ H' → RelL K F' pa' ds vs → P ds t' → Q vs H'
/-- arguments that are read alone -/
inductive RelXs (F : Hp) (pa : Option Addr) (env : En) (σ : L2.St) : List D → List V → Prop
  | nil : RelXs F pa env σ [] []
  | cons {d : D} {v : V} {ds : List D} {vs : List V} : RelX K F pa env σ d v → RelXs F pa env σ ds vs → RelXs F pa env σ (d :: ds) (v :: vs)
def txOf (da : DA) : TA := fun σ H Q => ∃ F pa t env P, Cf K B F pa t env σ H ∧ da env t P ∧
  ∀ vs ds F' pa' t' H', Gr F pa F' pa' → Cf K B F' pa' t' env σ H' → RelXs K F' pa' env σ ds vs → P ds t' → Q vs H'
def toOf (d : DO) : TO := fun σ H Q => ∃ F pa t env P, Cf K B F pa t env σ H ∧ d env t P ∧
  ∀ k F' pa' t' H', Gr F pa F' pa' → Cf K B F' pa' t' env σ H' → P k t' → Q k H'
/-- a target whose names have the slots vs -/
def tgOf (vs : List Nat) (g : DG) : TG := fun v σ H Q => ∃ F pa t env d P, Cf K B F pa t env σ H ∧ RelD K F pa d v ∧ g d env t P ∧
  ∀ F' pa' t' env' σ' H', Gr F pa F' pa' → Cf K B F' pa' t' env' σ' H' → wipe σ' vs = wipe σ vs → P env' t' → Q σ' H'
def tgsOf (vs : List Nat) (g : DGs) : TGs := fun us σ H Q => ∃ F pa t env ds P, Cf K B F pa t env σ H ∧ RelL K F pa ds us ∧ g ds env t P ∧
  ∀ F' pa' t' env' σ' H', Gr F pa F' pa' → Cf K B F' pa' t' env' σ' H' → wipe σ' vs = wipe σ vs → P env' t' → Q σ' H'
/-- how a datum is told back -/
def RetRel (F : Hp) (pa : Option Addr) (t : Ts) (H : Hp) (d : D) (v : V) : Prop := match B.m with
  | false => RelD K F pa d v
  | true => (d = .non ∧ v = .non) ∨ ∃ p h, v = .ref p ∧ F p = none ∧ B.H p = none ∧ pa ≠ some p ∧ t.obs p = none ∧ H p = some h ∧ RelO1 K F pa d h
structure Rz (F0 : Hp) (pa0 : Option Addr) (DD : DEnds) (D : Ends) : Prop where
  nx : ∀ F pa t env σ H, Gr F0 pa0 F pa → Cf K B F pa t env σ H → DD.nx env t → D.nx σ H
  rt : ∀ v d F pa t env σ H, Gr F0 pa0 F pa → Cf K B F pa t env σ H → RetRel K B F pa t H d v → DD.rt d env t → D.rt v H
  bk : ∀ F pa t env σ H, Gr F0 pa0 F pa → Cf K B F pa t env σ H → DD.bk env t → D.bk σ H
  ct : ∀ F pa t env σ H, Gr F0 pa0 F pa → Cf K B F pa t env σ H → DD.ct env t → D.ct σ H
def tsOf (ds : DS) : TS := fun D σ H => ∃ F pa t env DD, Cf K B F pa t env σ H ∧ ds DD env t ∧ Rz K B F pa DD D
end
theorem Rz.mono {K : PySem.W.Frag} {B : Bs} {F0 F1 : Hp} {p0 p1 : Option Addr} {DD : DEnds} {D : Ends} (R : Rz K B F0 p0 DD D) (g : Gr F0 p0 F1 p1) : Rz K B F1 p1 DD D :=
  ⟨fun F pa t env σ H g' => R.nx F pa t env σ H (g.trans g'), fun v d F pa t env σ H g' => R.rt v d F pa t env σ H (g.trans g'), fun F pa t env σ H g' => R.bk F pa t env σ H (g.trans g'), fun F pa t env σ H g' => R.ct F pa t env σ H (g.trans g')⟩
abbrev QE (X : Cx) (B : Bs) (e : Expr) (de : DE) : Prop := PE X e (teOf X.K B de)
abbrev QV (X : Cx) (B : Bs) (e : Expr) (de : DE) : Prop := PE X e (tvOf X.K B de)
abbrev QN (X : Cx) (B : Bs) (e : Expr) (de : DE) : Prop := PE X e (tnOf X.K B de)
abbrev QT (X : Cx) (B : Bs) (e : Expr) (dt : DT) : Prop := PT X e (ttOf X.K B dt)
abbrev QW (X : Cx) (B : Bs) (e : Expr) (dt : DT) : Prop := PW X e (ttOf X.K B dt)
abbrev QA (X : Cx) (B : Bs) (es : List Expr) (da : DA) : Prop := PA X es (taOf X.K B da)
abbrev QX (X : Cx) (B : Bs) (es : List Expr) (da : DA) : Prop := PA X es (txOf X.K B da)
abbrev QO (X : Cx) (B : Bs) (e : Option Expr) (d : DO) : Prop := PO X e (toOf X.K B d)
abbrev QG (X : Cx) (B : Bs) (vs : List Nat) (e : Expr) (g : DG) : Prop := PG X e (tgOf X.K B vs g)
abbrev QGs (X : Cx) (B : Bs) (vs : List Nat) (es : List Expr) (g : DGs) : Prop := PGs X es (tgsOf X.K B vs g)
abbrev QS (X : Cx) (B : Bs) (st : Stmt) (ds : DS) : Prop := PS X st (tsOf X.K B ds)
abbrev QSs (X : Cx) (B : Bs) (st : List Stmt) (ds : DS) : Prop := PSs X st (tsOf X.K B ds)
theorem PE.imp {X : Cx} {e : Expr} {t t' : TE} (h : PE X e t) (i : ∀ σ H Q, t' σ H Q → t σ H Q) : PE X e t' := ⟨fun pins s σ H Q I q => h.run pins s σ H Q I (i σ H Q q)⟩
theorem PT.imp {X : Cx} {e : Expr} {t t' : TT} (h : PT X e t) (i : ∀ σ H Q, t' σ H Q → t σ H Q) : PT X e t' := ⟨fun pins s σ H Q I q => h.run pins s σ H Q I (i σ H Q q)⟩
theorem PW.imp {X : Cx} {e : Expr} {t t' : TT} (h : PW X e t) (i : ∀ σ H Q, t' σ H Q → t σ H Q) : PW X e t' := ⟨fun w pins s σ H Q I q => h.run w pins s σ H Q I (i σ H Q q)⟩
theorem PA.imp {X : Cx} {e : List Expr} {t t' : TA} (h : PA X e t) (i : ∀ σ H Q, t' σ H Q → t σ H Q) : PA X e t' := ⟨fun p pins s σ H Q I q => h.run p pins s σ H Q I (i σ H Q q)⟩
theorem PO.imp {X : Cx} {e : Option Expr} {t t' : TO} (h : PO X e t) (i : ∀ σ H Q, t' σ H Q → t σ H Q) : PO X e t' := ⟨fun pins s σ H Q I q => h.run pins s σ H Q I (i σ H Q q)⟩
theorem PG.imp {X : Cx} {e : Expr} {t t' : TG} (h : PG X e t) (i : ∀ v σ H Q, t' v σ H Q → t v σ H Q) : PG X e t' := ⟨fun pins s σ H v u Q I r q => h.run pins s σ H v u Q I r (i v σ H Q q)⟩
theorem PGs.imp {X : Cx} {e : List Expr} {t t' : TGs} (h : PGs X e t) (i : ∀ v σ H Q, t' v σ H Q → t v σ H Q) : PGs X e t' := ⟨fun pins s σ H v u Q I r q => h.run pins s σ H v u Q I r (i v σ H Q q)⟩
theorem PS.imp {X : Cx} {e : Stmt} {t t' : TS} (h : PS X e t) (i : ∀ D σ H, t' D σ H → t D σ H) : PS X e t' := ⟨fun pins s σ H D I q => h.run pins s σ H D I (i D σ H q)⟩
theorem PSs.imp {X : Cx} {e : List Stmt} {t t' : TS} (h : PSs X e t) (i : ∀ D σ H, t' D σ H → t D σ H) : PSs X e t' := ⟨fun pins s σ H D I q => h.run pins s σ H D I (i D σ H q)⟩
section
variable {X : Cx} {B : Bs} {K : PySem.W.Frag} {a b c e : Expr} {es : List Expr} {pos : Pos} {da db dc : DE} {as : DA}
theorem RelX.mono {F F' : Hp} {pa pa' : Option Addr} {env : En} {σ : L2.St} {d : D} {v : V} (g : Gr F pa F' pa') (r : RelX K F pa env σ d v) : RelX K F' pa' env σ d v := by
  rcases r with r | r
  · exact .inl (RelD.mono g d v r)
  · exact .inr r
theorem RelXs.mono {F F' : Hp} {pa pa' : Option Addr} {env : En} {σ : L2.St} {d : List D} {v : List V} (g : Gr F pa F' pa') (r : RelXs K F pa env σ d v) : RelXs K F' pa' env σ d v := by
  induction r with
  | nil => exact .nil
  | cons h _ ih => exact .cons (h.mono g) ih
theorem RelXs.of {F : Hp} {pa : Option Addr} {env : En} {σ : L2.St} : ∀ {d : List D} {v : List V}, RelL K F pa d v → RelXs K F pa env σ d v
  | [], v, h => by rw [h.inv0]; exact .nil
  | x :: d, v, h => by
    obtain ⟨y, w, rfl, r, q⟩ := h.inv
    exact .cons (.inl r) (RelXs.of q)
/-- what a list, a tuple, a dict that is read stands as -/
theorem RelX.lst {F : Hp} {pa : Option Addr} {t : Ts} {env : En} {σ : L2.St} {H : Hp} {l : List D} {v : V} (C : Cf K B F pa t env σ H) (r : RelX K F pa env σ (.lst l) v) : ∃ a vs, v = .ref a ∧ H a = some (.lst vs) ∧ RelL K F pa l vs := by
  rcases r with r | ⟨i, h1, h2⟩
  · unfold RelD at r
    obtain ⟨a, vs, e, q, z⟩ := r
    exact ⟨a, vs, e, C.sub _ _ q, z⟩
  · obtain ⟨a, h, s1, q, z, _⟩ := C.own i _ h1
    rw [h2] at s1; cases s1
    obtain ⟨vs, rfl, z⟩ := z
    exact ⟨a, vs, rfl, q, z⟩
theorem RelX.tup {F : Hp} {pa : Option Addr} {t : Ts} {env : En} {σ : L2.St} {H : Hp} {l : List D} {v : V} (C : Cf K B F pa t env σ H) (r : RelX K F pa env σ (.tup l) v) : ∃ a vs, v = .ref a ∧ H a = some (.tup vs) ∧ F a = some (.tup vs) ∧ RelL K F pa l vs := by
  rcases r with r | ⟨i, h1, h2⟩
  · unfold RelD at r
    obtain ⟨a, vs, e, q, z⟩ := r
    exact ⟨a, vs, e, C.sub _ _ q, q, z⟩
  · obtain ⟨a, h, s1, q, z, _⟩ := C.own i _ h1
    exact z.elim
theorem RelX.dic {F : Hp} {pa : Option Addr} {t : Ts} {env : En} {σ : L2.St} {H : Hp} {ks : List Ky} {l : List D} {v : V} (C : Cf K B F pa t env σ H) (r : RelX K F pa env σ (.dic ks l) v) : ∃ a vs, v = .ref a ∧ H a = some (.dK (ks.zip vs)) ∧ ks.length = vs.length ∧ RelL K F pa l vs := by
  rcases r with r | ⟨i, h1, h2⟩
  · unfold RelD at r
    obtain ⟨a, vs, e, q, z⟩ := r
    exact ⟨a, vs, e, C.sub _ _ q, z⟩
  · obtain ⟨a, h, s1, q, z, _⟩ := C.own i _ h1
    rw [h2] at s1; cases s1
    obtain ⟨vs, rfl, z⟩ := z
    exact ⟨a, vs, rfl, q, z⟩
theorem RelX.ins {F : Hp} {pa : Option Addr} {t : Ts} {env : En} {σ : L2.St} {H : Hp} {C : Addr} {ns : List Str} {l : List D} {v : V} (W : Cf K B F pa t env σ H) (r : RelX K F pa env σ (.ins C ns l) v) : ∃ a dx vs, v = .ref a ∧ H a = some (.ins C dx (ns.zip vs)) ∧ ns.length = vs.length ∧ RelL K F pa l vs := by
  rcases r with r | ⟨i, h1, h2⟩
  · unfold RelD at r
    obtain ⟨a, dx, vs, e, q, z⟩ := r
    exact ⟨a, dx, vs, e, W.sub _ _ q, z⟩
  · obtain ⟨a, h, s1, q, z, _⟩ := W.own i _ h1
    rw [h2] at s1; cases s1
    obtain ⟨dx, vs, rfl, z⟩ := z
    exact ⟨a, dx, vs, rfl, q, z⟩
theorem RelX.scr {F : Hp} {pa : Option Addr} {t : Ts} {env : En} {σ : L2.St} {H : Hp} {ns : List Int} {v : V} (W : Cf K B F pa t env σ H) (r : RelX K F pa env σ (.scr ns) v) : ∃ a, v = .ref a ∧ SqL K H a (ns.map V.int) := by
  rcases r with r | ⟨i, h1, h2⟩
  · unfold RelD at r
    obtain ⟨a, e, q⟩ := r
    exact ⟨a, e, sq_mono W.sub q⟩
  · obtain ⟨a, h, s1, q, z, _⟩ := W.own i _ h1
    exact z.elim
theorem RelX.int {F : Hp} {pa : Option Addr} {t : Ts} {env : En} {σ : L2.St} {H : Hp} {i : Int} {v : V} (W : Cf K B F pa t env σ H) (r : RelX K F pa env σ (.int i) v) : v = .int i := by
  rcases r with r | ⟨i, h1, h2⟩
  · unfold RelD at r; exact r
  · obtain ⟨a, h, s1, q, z, _⟩ := W.own i _ h1
    exact z.elim
theorem RelX.bl {F : Hp} {pa : Option Addr} {t : Ts} {env : En} {σ : L2.St} {H : Hp} {i : Bool} {v : V} (W : Cf K B F pa t env σ H) (r : RelX K F pa env σ (.bl i) v) : v = .bl i := by
  rcases r with r | ⟨i, h1, h2⟩
  · unfold RelD at r; exact r
  · obtain ⟨a, h, s1, q, z, _⟩ := W.own i _ h1
    exact z.elim
theorem RelX.str {F : Hp} {pa : Option Addr} {t : Ts} {env : En} {σ : L2.St} {H : Hp} {i : Str} {v : V} (W : Cf K B F pa t env σ H) (r : RelX K F pa env σ (.str i) v) : v = .str i := by
  rcases r with r | ⟨i, h1, h2⟩
  · unfold RelD at r; exact r
  · obtain ⟨a, h, s1, q, z, _⟩ := W.own i _ h1
    exact z.elim
theorem RelX.non {F : Hp} {pa : Option Addr} {t : Ts} {env : En} {σ : L2.St} {H : Hp} {v : V} (W : Cf K B F pa t env σ H) (r : RelX K F pa env σ .non v) : v = .non := by
  rcases r with r | ⟨i, h1, h2⟩
  · unfold RelD at r; exact r
  · obtain ⟨a, h, s1, q, z, _⟩ := W.own i _ h1
    exact z.elim
/-- a datum is read -/
theorem toV (h : QE X B e da) : QV X B e da := PE.imp h fun σ H Q ⟨F, pa, t, env, P, C, hd, k⟩ => ⟨F, pa, t, env, P, C, hd, fun v d F' pa' t' H' g C' r q => k v d F' pa' t' H' g C' (.inl r) q⟩
/-- a new object is frozen -/
theorem toE (h : QN X B e da) : QE X B e da := PE.imp h fun σ H Q ⟨F, pa, t, env, P, C, hd, k⟩ => ⟨F, pa, t, env, P, C, hd, fun p h d F' pa' t' H' g C' n e r q => by
  obtain ⟨g', C2⟩ := C'.frz n e r.ntb
  exact k (.ref p) d _ pa' t' H' (g.trans g') C2 (RelO1.rel (RelO1.mono g' d h r) upd_same) q⟩
/-! ### names, constants -/
theorem q_var {i : Nat} {x : Str} {pos : Pos} (h : PE X (.Name x pos) (tVar i)) : QE X B (.Name x pos) (dVar i) := PE.imp h fun σ H Q ⟨F, pa, t, env, P, C, hd, k⟩ => by
  have hd : (match env[i]? with | some (.val d) => P d t | _ => False) := hd
  cases q : env[i]? with
  | none => rw [q] at hd; exact hd.elim
  | some s =>
    rw [q] at hd
    cases s with
    | val d =>
      obtain ⟨v, h1, h2⟩ := C.val i d q
      exact ⟨v, h1, k v d F pa t H (Gr.refl _ _) C h2 hd⟩
    | no => exact hd.elim
    | own d => exact hd.elim
theorem q_view {i : Nat} {x : Str} {pos : Pos} (h : PE X (.Name x pos) (tVar i)) : QV X B (.Name x pos) (dView i) := PE.imp h fun σ H Q ⟨F, pa, t, env, P, C, hd, k⟩ => by
  have hd : (match env[i]? with | some (.val d) => P d t | some (.own d) => P d t | _ => False) := hd
  cases q : env[i]? with
  | none => rw [q] at hd; exact hd.elim
  | some s =>
    rw [q] at hd
    cases s with
    | val d =>
      obtain ⟨v, h1, h2⟩ := C.val i d q
      exact ⟨v, h1, k v d F pa t H (Gr.refl _ _) C (.inl h2) hd⟩
    | no => exact hd.elim
    | own d =>
      obtain ⟨a, h, h1, h2, h3, _⟩ := C.own i d q
      exact ⟨.ref a, h1, k _ d F pa t H (Gr.refl _ _) C (.inr ⟨i, q, h1⟩) hd⟩
theorem q_c {v : V} {d : D} (h : PE X e (tC v)) (r : ∀ F pa, RelD X.K F pa d v) : QE X B e (dC d) := PE.imp h fun σ H Q ⟨F, pa, t, env, P, C, hd, k⟩ => k v d F pa t H (Gr.refl _ _) C (r F pa) hd
theorem q_int {i : Int} {j pos} : QE X B (.Constant (.int i) j pos) (dC (.int i)) := q_c pe_int fun _ _ => by unfold RelD; rfl
theorem q_bl {i : Bool} {j pos} : QE X B (.Constant (.bool i) j pos) (dC (.bl i)) := q_c pe_bl fun _ _ => by unfold RelD; rfl
theorem q_non {j pos} : QE X B (.Constant .none j pos) (dC .non) := q_c pe_non fun _ _ => by unfold RelD; rfl
theorem q_str {i : Str} {j pos} : QE X B (.Constant (.str i) j pos) (dC (.str i)) := q_c pe_str fun _ _ => by unfold RelD; rfl
/-! ### operators -/
def ROp (K : PySem.W.Frag) (r : R2) (o : DOp) : Prop := ∀ (B : Bs) F pa t env σ H x y v u P (Q : VK), Cf K B F pa t env σ H → RelX K F pa env σ x v → RelX K F pa env σ y u → o x y P →
  (∀ w d F' H', Gr F pa F' pa → Cf K B F' pa t env σ H' → RelD K F' pa d w → P d → Q w H') → r v u H Q
/-- an operation that gives a new object: the list itself -/
def RUn (K : PySem.W.Frag) (r : V → Hp → VK → Prop) (o : DU) : Prop := ∀ (B : Bs) F pa t env σ H x v P (Q : VK), Cf K B F pa t env σ H → RelX K F pa env σ x v → o x P →
  (∀ w d F' H', Gr F pa F' pa → Cf K B F' pa t env σ H' → RelD K F' pa d w → P d → Q w H') → r v H Q
theorem ev2 {r : R2} {o : DOp} (hr : ROp K r o) : ∀ σ H Q, teOf K B (dOp o da db) σ H Q → tOp r (tvOf K B da) (tvOf K B db) σ H Q := fun σ H Q ⟨F, pa, t, env, P, C, hd, k⟩ =>
  ⟨F, pa, t, env, _, C, hd, fun v x F1 pa1 t1 H1 g1 C1 r1 q1 => ⟨F1, pa1, t1, env, _, C1, q1, fun u y F2 pa2 t2 H2 g2 C2 r2 q2 =>
    hr B F2 pa2 t2 env σ H2 x y v u _ Q C2 (r1.mono g2) r2 q2 fun w d F' H' g3 C3 r3 q3 => k w d F' pa2 t2 H' ((g1.trans g2).trans g3) C3 r3 q3⟩⟩
theorem q_op {op : Operator} {r : R2} {o : DOp} (ho : OpR X (binaryOp op) r) (hr : ROp X.K r o) (ha : QV X B a da) (hb : QV X B b db) : QE X B (.BinOp a op b pos) (dOp o da db) := PE.imp (pe_op ho ha hb) (ev2 hr)
theorem q_un {op : UnaryOp} {r : V → Hp → VK → Prop} {o : DU} (ho : UnR X (unaryOp op) r) (hr : RUn X.K r o) (ha : QV X B a da) : QE X B (.UnaryOp op a pos) (dUn o da) := PE.imp (pe_un ho ha) fun σ H Q ⟨F, pa, t, env, P, C, hd, k⟩ =>
  ⟨F, pa, t, env, _, C, hd, fun v x F1 pa1 t1 H1 g1 C1 r1 q1 => hr B F1 pa1 t1 env σ H1 x v _ Q C1 r1 q1 fun w d F' H' g3 C3 r3 q3 => k w d F' pa1 t1 H' (g1.trans g3) C3 r3 q3⟩
theorem q_cmp {op : CmpOp} {r : R2} {o : DOp} (ho : OpR X (compareOp op) r) (hr : ROp X.K r o) (ha : QV X B a da) (hb : QV X B b db) (hm : behindInMarks op b = false) : QE X B (.Compare a [op] [b] pos) (dOp o da db) := PE.imp (pe_cmpR ho ha hb hm) (ev2 hr)
theorem q_tcmp {op : CmpOp} {r : R2} {o : DOp} (ho : OpR X (compareOp op) r) (hr : ROp X.K r o) (ha : QV X B a da) (hb : QV X B b db) (hm : behindInMarks op b = false) : QT X B (.Compare a [op] [b] pos) (dB (dOp o da db)) := PT.imp (pt_cmpR ho ha hb hm) fun σ H Q ⟨F, pa, t, env, P, C, hd, k⟩ => by
  refine ev2 hr σ H _ ⟨F, pa, t, env, _, C, hd, fun v d F' pa' t' H' g C' rd q => ?_⟩
  cases d with
  | bl b => unfold RelD at rd; exact ⟨b, rd, k b F' pa' t' H' g C' q⟩
  | _ => exact q.elim
/-! ### the operators' relations -/
theorem rD_int {F : Hp} {pa : Option Addr} (i : Int) : RelD K F pa (.int i) (.int i) := by unfold RelD; rfl
theorem rD_bl {F : Hp} {pa : Option Addr} (i : Bool) : RelD K F pa (.bl i) (.bl i) := by unfold RelD; rfl
theorem rD_str {F : Hp} {pa : Option Addr} (i : Str) : RelD K F pa (.str i) (.str i) := by unfold RelD; rfl
theorem rD_non {F : Hp} {pa : Option Addr} : RelD K F pa .non .non := by unfold RelD; rfl
theorem rop_int {C : Int → Int → Prop} {g : Int → Int → V} {f : Int → Int → D} {o : DOp} (hg : ∀ F pa i j, RelD K F pa (f i j) (g i j)) (ho : ∀ x y P, o x y P → ∃ i j, x = .int i ∧ y = .int j ∧ C i j ∧ P (f i j)) : ROp K (rI C g) o := fun B F pa t env σ H x y v u P Q W rx ry h k => by
  obtain ⟨i, j, rfl, rfl, hc, p⟩ := ho x y P h
  exact ⟨i, j, rx.int W, ry.int W, hc, k _ _ F H (Gr.refl _ _) W (hg F pa i j) p⟩
theorem rop_int0 {g : Int → Int → V} {f : Int → Int → D} {o : DOp} (hg : ∀ F pa i j, RelD K F pa (f i j) (g i j)) (ho : ∀ x y P, o x y P → ∃ i j, x = .int i ∧ y = .int j ∧ P (f i j)) : ROp K (rI0 g) o := fun B F pa t env σ H x y v u P Q W rx ry h k => by
  obtain ⟨i, j, rfl, rfl, p⟩ := ho x y P h
  exact ⟨i, j, rx.int W, ry.int W, k _ _ F H (Gr.refl _ _) W (hg F pa i j) p⟩
theorem rop_sub : ROp K (rI0 fun i j => .int (i - j)) oSub := rop_int0 (f := fun i j => .int (i - j)) (fun _ _ _ _ => rD_int _) fun x y P h => by
  cases x <;> cases y <;> first | exact ⟨_, _, rfl, rfl, h⟩ | exact (False.elim h)
theorem rop_lt : ROp K (rI0 fun i j => .bl (decide (i < j))) oLt := rop_int0 (f := fun i j => .bl (decide (i < j))) (fun _ _ _ _ => rD_bl _) fun x y P h => by
  cases x <;> cases y <;> first | exact ⟨_, _, rfl, rfl, h⟩ | exact (False.elim h)
theorem rop_le : ROp K (rI0 fun i j => .bl (decide (i ≤ j))) oLe := rop_int0 (f := fun i j => .bl (decide (i ≤ j))) (fun _ _ _ _ => rD_bl _) fun x y P h => by
  cases x <;> cases y <;> first | exact ⟨_, _, rfl, rfl, h⟩ | exact (False.elim h)
theorem rop_gt : ROp K (rI0 fun i j => .bl (decide (j < i))) oGt := rop_int0 (f := fun i j => .bl (decide (j < i))) (fun _ _ _ _ => rD_bl _) fun x y P h => by
  cases x <;> cases y <;> first | exact ⟨_, _, rfl, rfl, h⟩ | exact (False.elim h)
theorem rop_ge : ROp K (rI0 fun i j => .bl (decide (j ≤ i))) oGe := rop_int0 (f := fun i j => .bl (decide (j ≤ i))) (fun _ _ _ _ => rD_bl _) fun x y P h => by
  cases x <;> cases y <;> first | exact ⟨_, _, rfl, rfl, h⟩ | exact (False.elim h)
theorem rop_mod : ROp K (rI (fun _ j => 0 < j) fun i j => .int (i % j)) oMod := rop_int (f := fun i j => .int (i % j)) (fun _ _ _ _ => rD_int _) fun x y P h => by
  cases x <;> cases y <;> first | exact ⟨_, _, rfl, rfl, h.1, h.2⟩ | exact (False.elim h)
theorem rop_div : ROp K (rI CDivW fun i j => .int (i / j)) oDiv := rop_int (f := fun i j => .int (i / j)) (fun _ _ _ _ => rD_int _) fun x y P h => by
  cases x <;> cases y <;> first | exact ⟨_, _, rfl, rfl, wide_div h.1.1 h.1.2 (by decide) (by decide), h.2⟩ | exact (False.elim h)
theorem zle {n : Nat} (h : n ≤ zLen) : n ≤ sizeLine := by rw [sizeLine_eq]; unfold zLen at h; omega
theorem zlt {n : Nat} (h : n < zLen) : n < sizeLine := by rw [sizeLine_eq]; unfold zLen at h; omega
theorem few_of {l : List D} {p : Prop} (h : Few l p) : l.length ≤ sizeLine ∧ p := by
  unfold Few at h
  split at h
  · rename_i e
    exact ⟨by rw [sizeLine_eq]; have := Nat.le_of_ble_eq_true e; omega, h⟩
  · exact h.elim
/-- a new list | tuple, of what is there -/
theorem new_lst {F : Hp} {pa : Option Addr} {t : Ts} {env : En} {σ : L2.St} {H : Hp} {p : Addr} {l : List D} {vs : List V} (C : Cf K B F pa t env σ H) (h : H p = none) (r : RelL K F pa l vs) :
    ∃ F', Gr F pa F' pa ∧ Cf K B F' pa t env σ (upd H p (.lst vs)) ∧ RelD K F' pa (.lst l) (.ref p) := by
  obtain ⟨g, C'⟩ := C.alloc (.lst vs) h
  exact ⟨_, g, C', RelO1.rel (d := .lst l) ⟨vs, rfl, RelL.mono g l vs r⟩ upd_same⟩
theorem new_tup {F : Hp} {pa : Option Addr} {t : Ts} {env : En} {σ : L2.St} {H : Hp} {p : Addr} {l : List D} {vs : List V} (C : Cf K B F pa t env σ H) (h : H p = none) (r : RelL K F pa l vs) :
    ∃ F', Gr F pa F' pa ∧ Cf K B F' pa t env σ (upd H p (.tup vs)) ∧ RelD K F' pa (.tup l) (.ref p) := by
  obtain ⟨g, C'⟩ := C.alloc (.tup vs) h
  refine ⟨_, g, C', ?_⟩
  unfold RelD
  exact ⟨p, vs, rfl, upd_same, RelL.mono g l vs r⟩
def rAdd4 (K : PySem.W.Frag) : R2 := fun x y H Q => (rI0 (fun i j => .int (i + j)) x y H Q ∨ rCat x y H Q) ∨ (rCatT K x y H Q ∨ ∃ i j, x = .str i ∧ y = .str j ∧ i.length + j.length ≤ sizeLine ∧ Q (.str (i ++ j)) H)
theorem op_add4 : OpR X (binaryOp .Add) (rAdd4 X.K) := (op_add.or op_cat).or (op_catT.or op_add_str)
theorem rop_add : ROp K (rAdd4 K) oAdd := fun B F pa t env σ H x y v u P Q W rx ry h k => by
  cases x with
  | int i =>
    cases y with
    | int j => exact .inl (.inl ⟨i, j, rx.int W, ry.int W, k _ _ F H (Gr.refl _ _) W (rD_int _) h⟩)
    | _ => exact h.elim
  | str i =>
    cases y with
    | str j => exact .inr (.inr ⟨i, j, rx.str W, ry.str W, zle h.1, k _ _ F H (Gr.refl _ _) W (rD_str _) h.2⟩)
    | _ => exact h.elim
  | lst l =>
    cases y with
    | lst m =>
      obtain ⟨a, vs, rfl, e1, r1⟩ := rx.lst W
      obtain ⟨b, ws, rfl, e2, r2⟩ := ry.lst W
      refine .inl (.inr ⟨a, b, vs, ws, rfl, rfl, e1, e2, by rw [r1.len, r2.len]; exact zle h.1, fun p hp => ?_⟩)
      obtain ⟨F', g, C', rd⟩ := new_lst W hp (r1.append r2)
      exact k _ _ F' _ g C' rd h.2
    | _ => exact h.elim
  | tup l =>
    cases y with
    | tup m =>
      obtain ⟨a, vs, rfl, e1, _, r1⟩ := rx.tup W
      obtain ⟨b, ws, rfl, e2, _, r2⟩ := ry.tup W
      obtain ⟨⟨hz, hl, hm⟩, hp⟩ := h
      refine .inr (.inl ⟨a, b, vs, ws, rfl, rfl, SqT.of e1, SqT.of e2, ?_, by rw [r1.len, r2.len]; exact zle hz, ?_, fun _ p hp' => ?_⟩)
      · intro e; have := r1.len; rw [e] at this; exact hl (List.length_eq_zero_iff.mp this.symm)
      · intro e; have := r2.len; rw [e] at this; exact absurd (List.length_eq_zero_iff.mp this.symm) hm
      · obtain ⟨F', g, C', rd⟩ := new_tup W hp' (r1.append r2)
        exact k _ _ F' _ g C' rd hp
    | _ => exact h.elim
  | _ => exact h.elim
theorem sm_mul {i j : Int} (h : MulOk i j) : CMul i j ∨ CMulW i j := by
  rcases h with h | h | ⟨a, b, h1, h2, h3, h4, h5⟩
  · have h : i.natAbs < 2 ^ 64 := h
    exact .inl (.inl ⟨by omega, by omega⟩)
  · have h : j.natAbs < 2 ^ 64 := h
    exact .inl (.inr ⟨by omega, by omega⟩)
  · exact .inr (wide_mul h1 h2 h3 h4 h5)
def rMul3 : R2 := fun x y H Q => (rI CMul (fun i j => .int (i * j)) x y H Q ∨ rI CMulW (fun i j => .int (i * j)) x y H Q) ∨ rRep x y H Q
theorem op_mul3 : OpR X (binaryOp .Mult) rMul3 := (op_mul.or op_mulW).or op_rep
theorem rop_mul : ROp K rMul3 oMul := fun B F pa t env σ H x y v u P Q W rx ry h k => by
  cases x with
  | int i =>
    cases y with
    | int j =>
      rcases sm_mul h.1 with c | c
      · exact .inl (.inl ⟨i, j, rx.int W, ry.int W, c, k _ _ F H (Gr.refl _ _) W (rD_int _) h.2⟩)
      · exact .inl (.inr ⟨i, j, rx.int W, ry.int W, c, k _ _ F H (Gr.refl _ _) W (rD_int _) h.2⟩)
    | _ => exact h.elim
  | lst l =>
    cases y with
    | int j =>
      obtain ⟨a, vs, rfl, e1, r1⟩ := rx.lst W
      obtain ⟨⟨h1, h2, h3⟩, hp⟩ := h
      refine .inr ⟨a, j, vs, rfl, ry.int W, e1, by omega, by omega, by rw [r1.len]; exact zle h3, fun p hp' => ?_⟩
      obtain ⟨F', g, C', rd⟩ := new_lst W hp' (r1.rep j.toNat)
      exact k _ _ F' _ g C' rd hp
    | _ => exact h.elim
  | _ => exact h.elim
/-- ** of whole numbers -/
theorem sm_pow {i j : Int} (h : PowOk i j) : 0 ≤ j ∧ (Builtin.Int.intBits i : Int) * j ≤ 2 ^ 27 := by
  obtain ⟨h0, a, ha, hb⟩ := h
  refine ⟨h0, ?_⟩
  have hi : Builtin.Int.intBits i ≤ a ∨ i = 0 := by
    unfold Builtin.Int.intBits
    by_cases e : i = 0
    · exact .inr e
    · left
      split
      · omega
      · have ha' : i.natAbs < 2 ^ a := ha
        have : i.natAbs.log2 < a := (Nat.log2_lt (by omega)).mpr ha'
        omega
  rcases hi with hi | rfl
  · have h1 : (Builtin.Int.intBits i : Int) ≤ (a : Int) := by omega
    have := Int.mul_le_mul_of_nonneg_right h1 h0
    have : (2 : Int) ^ 27 = 134217728 := by decide
    omega
  · have : (Builtin.Int.intBits 0 : Int) ≤ 1 := by decide
    have hj : j ≤ 100000000 ∨ a = 0 := by
      by_cases e : a = 0
      · exact .inr e
      · left
        have h1 : (1 : Int) ≤ (a : Int) := by omega
        have := Int.mul_le_mul_of_nonneg_right h1 h0
        omega
    rcases hj with hj | rfl
    · have := Int.mul_le_mul_of_nonneg_right this h0
      have : (2 : Int) ^ 27 = 134217728 := by decide
      omega
    · have e0 : Builtin.Int.intBits 0 = 0 := by decide
      rw [e0]
      have : (2 : Int) ^ 27 = 134217728 := by decide
      omega
theorem op_powW : OpR X (binaryOp .Pow) (rI (fun i j => PowOk i j) fun i j => .int (i ^ j.toNat)) := opI fun _ _ _ _ _ _ _ hc q => pow_int (sm_pow hc).1 (sm_pow hc).2 q
theorem rop_pow : ROp K (rI (fun i j => PowOk i j) fun i j => .int (i ^ j.toNat)) oPow := rop_int (f := fun i j => .int (i ^ j.toNat)) (fun _ _ _ _ => rD_int _) fun x y P h => by
  cases x <;> cases y <;> first | exact ⟨_, _, rfl, rfl, h.1, h.2⟩ | exact (False.elim h)
theorem run_neg : RUn K (rU fun i => .int (-i)) oNeg := fun B F pa t env σ H x v P Q W rx h k => by
  cases x with
  | int i => exact ⟨i, rx.int W, k _ _ F H (Gr.refl _ _) W (rD_int _) h⟩
  | _ => exact h.elim
/-! ### == as data -/
mutual
theorem eqv_toPy : ∀ (x y : D), plain x = true → plain y = true → PyData.eqv (toPy x) (toPy y) = deq x y
  | .lst l, .lst m, hx, hy => by
    simp only [toPy, PyData.eqv, deq]
    exact eqvs_toPy l m hx hy
  | .tup l, .tup m, hx, hy => by
    simp only [toPy, PyData.eqv, deq]
    exact eqvs_toPy l m hx hy
  | .non, y, hx, hy => by cases y <;> first | rfl | (simp [plain] at hy; done)
  | .bl b, y, hx, hy => by cases y <;> first | rfl | (simp [plain] at hy; done)
  | .int b, y, hx, hy => by cases y <;> first | rfl | (simp [plain] at hy; done)
  | .str b, y, hx, hy => by cases y <;> first | rfl | (simp [plain] at hy; done) | (simp [toPy, PyData.eqv, deq]; done)
  | .lst l, .non, _, _ => rfl
  | .lst l, .bl _, _, _ => rfl
  | .lst l, .int _, _, _ => rfl
  | .lst l, .str _, _, _ => rfl
  | .lst l, .tup _, _, _ => rfl
  | .lst l, .dic _ _, _, hy => by simp [plain] at hy
  | .lst l, .ins _ _ _, _, hy => by simp [plain] at hy
  | .lst l, .pen, _, hy => by simp [plain] at hy
  | .lst l, .ty _, _, hy => by simp [plain] at hy
  | .lst l, .adr _, _, hy => by simp [plain] at hy
  | .lst l, .rp _, _, hy => by simp [plain] at hy
  | .lst l, .scr _, _, hy => by simp [plain] at hy
  | .tup l, .non, _, _ => rfl
  | .tup l, .bl _, _, _ => rfl
  | .tup l, .int _, _, _ => rfl
  | .tup l, .str _, _, _ => rfl
  | .tup l, .lst _, _, _ => rfl
  | .tup l, .dic _ _, _, hy => by simp [plain] at hy
  | .tup l, .ins _ _ _, _, hy => by simp [plain] at hy
  | .tup l, .pen, _, hy => by simp [plain] at hy
  | .tup l, .ty _, _, hy => by simp [plain] at hy
  | .tup l, .adr _, _, hy => by simp [plain] at hy
  | .tup l, .rp _, _, hy => by simp [plain] at hy
  | .tup l, .scr _, _, hy => by simp [plain] at hy
  | .dic _ _, _, hx, _ => by simp [plain] at hx
  | .ins _ _ _, _, hx, _ => by simp [plain] at hx
  | .pen, _, hx, _ => by simp [plain] at hx
  | .ty _, _, hx, _ => by simp [plain] at hx
  | .adr _, _, hx, _ => by simp [plain] at hx
  | .rp _, _, hx, _ => by simp [plain] at hx
  | .scr _, _, hx, _ => by simp [plain] at hx
theorem eqvs_toPy : ∀ (x y : List D), plains x = true → plains y = true → PyData.eqvAll (toPys x) (toPys y) = deqs x y
  | [], [], _, _ => rfl
  | [], _ :: _, _, _ => rfl
  | _ :: _, [], _, _ => rfl
  | x :: l, y :: m, hx, hy => by
    simp only [plains, Bool.and_eq_true] at hx hy
    simp only [toPys, PyData.eqvAll, deqs]
    rw [eqv_toPy x y hx.1 hy.1, eqvs_toPy l m hx.2 hy.2]
end
mutual
theorem lay_toPy : ∀ x : D, plain x = true → (toPy x).canLay0 = true
  | .non, _ => rfl
  | .bl _, _ => rfl
  | .int _, _ => rfl
  | .str x, h => by
    have h : x.cps.all (· < 0x110000) = true := by simpa [plain] using h
    simpa [toPy, PyData.canLay0, PyData.strOk] using h
  | .lst l, h => by simp only [toPy, PyData.canLay0]; exact lays_toPy l (by simpa [plain] using h)
  | .tup l, h => by simp only [toPy, PyData.canLay0]; exact lays_toPy l (by simpa [plain] using h)
  | .dic _ _, h => by simp [plain] at h
  | .ins _ _ _, h => by simp [plain] at h
  | .pen, h => by simp [plain] at h
  | .ty _, h => by simp [plain] at h
  | .adr _, h => by simp [plain] at h
  | .rp _, h => by simp [plain] at h
  | .scr _, h => by simp [plain] at h
theorem lays_toPy : ∀ x : List D, plains x = true → PyData.canLayAll0 (toPys x) = true
  | [], _ => rfl
  | x :: l, h => by
    simp only [plains, Bool.and_eq_true] at h
    simp only [toPys, PyData.canLayAll0, Bool.and_eq_true]
    exact ⟨lay_toPy x h.1, lays_toPy l h.2⟩
end
mutual
theorem dep_toPy : ∀ x : D, plain x = true → (toPy x).depth = deep x
  | .non, _ => rfl
  | .bl _, _ => rfl
  | .int _, _ => rfl
  | .str x, h => rfl
  | .lst l, h => by simp only [toPy, PyData.depth, deep]; rw [deps_toPy l (by simpa [plain] using h)]
  | .tup l, h => by simp only [toPy, PyData.depth, deep]; rw [deps_toPy l (by simpa [plain] using h)]
  | .dic _ _, h => by simp [plain] at h
  | .ins _ _ _, h => by simp [plain] at h
  | .pen, h => by simp [plain] at h
  | .ty _, h => by simp [plain] at h
  | .adr _, h => by simp [plain] at h
  | .rp _, h => by simp [plain] at h
  | .scr _, h => by simp [plain] at h
theorem deps_toPy : ∀ x : List D, plains x = true → PyData.depthAll (toPys x) = deeps x
  | [], _ => rfl
  | x :: l, h => by
    simp only [plains, Bool.and_eq_true] at h
    simp only [toPys, PyData.depthAll, deeps]
    rw [dep_toPy x h.1, deps_toPy l h.2]
end
theorem shaped_toPy {x : D} (h : plain x = true) (d : deep x ≤ 60) : SeqAt.shaped (toPy x) = true := by
  unfold SeqAt.shaped
  rw [lay_toPy x h, dep_toPy x h, decide_eq_true (by omega)]
  rfl
mutual
theorem dp_of {F : Hp} {pa : Option Addr} {H : Hp} (g : ∀ a o, F a = some o → H a = some o) : ∀ (x : D) (v : V), RelD K F pa x v → plain x = true → Dp K H v (toPy x)
  | .non, v, r, _ => by unfold RelD at r; subst r; exact .non
  | .bl b, v, r, _ => by unfold RelD at r; subst r; exact .bl b
  | .int i, v, r, _ => by unfold RelD at r; subst r; exact .int i
  | .str x, v, r, _ => by unfold RelD at r; subst r; exact .str x
  | .lst l, v, r, h => by
    unfold RelD at r
    obtain ⟨a, vs, rfl, e, q⟩ := r
    exact .lst (SqL.of (g _ _ e)) (dps_of g l vs q (by simpa [plain] using h))
  | .tup l, v, r, h => by
    unfold RelD at r
    obtain ⟨a, vs, rfl, e, q⟩ := r
    exact .tup (SqT.of (g _ _ e)) (dps_of g l vs q (by simpa [plain] using h))
  | .dic _ _, _, _, h => by simp [plain] at h
  | .ins _ _ _, _, _, h => by simp [plain] at h
  | .pen, _, _, h => by simp [plain] at h
  | .ty _, _, _, h => by simp [plain] at h
  | .adr _, _, _, h => by simp [plain] at h
  | .rp _, _, _, h => by simp [plain] at h
  | .scr _, _, _, h => by simp [plain] at h
theorem dps_of {F : Hp} {pa : Option Addr} {H : Hp} (g : ∀ a o, F a = some o → H a = some o) : ∀ (x : List D) (vs : List V), RelL K F pa x vs → plains x = true → DpAll K H vs (toPys x)
  | [], vs, r, _ => by rw [r.inv0]; exact .nil
  | x :: l, vs, r, h => by
    obtain ⟨v, vr, rfl, r1, r2⟩ := r.inv
    simp only [plains, Bool.and_eq_true] at h
    exact .cons (dp_of g x v r1 h.1) (dps_of g l vr r2 h.2)
end
theorem dp_x {F : Hp} {pa : Option Addr} {t : Ts} {env : En} {σ : L2.St} {H : Hp} {x : D} {v : V} (W : Cf K B F pa t env σ H) (r : RelX K F pa env σ x v) (h : plain x = true) : Dp K H v (toPy x) := by
  rcases r with r | ⟨i, h1, h2⟩
  · exact dp_of W.sub x v r h
  · cases x with
    | lst l =>
      obtain ⟨a, vs, rfl, e, q⟩ := RelX.lst W (.inr ⟨i, h1, h2⟩)
      exact .lst (SqL.of e) (dps_of W.sub l vs q (by simpa [plain] using h))
    | dic _ _ => simp [plain] at h
    | ins _ _ _ => simp [plain] at h
    | _ => obtain ⟨a, hh, s1, q, z, _⟩ := W.own i _ h1; exact z.elim
theorem oEq_int {x y : D} {P : D → Prop} (h : oEq x y P) : (∃ i j, x = .int i ∧ y = .int j ∧ P (.bl (decide (i = j)))) ∨ ((plain x = true ∧ plain y = true ∧ deep x ≤ 60 ∧ deep y ≤ 60) ∧ P (.bl (deq x y))) := by
  unfold oEq at h
  split at h
  · exact .inl ⟨_, _, rfl, rfl, h⟩
  · exact .inr h
theorem oNe_int {x y : D} {P : D → Prop} (h : oNe x y P) : (∃ i j, x = .int i ∧ y = .int j ∧ P (.bl (!decide (i = j)))) ∨ ((plain x = true ∧ plain y = true ∧ deep x ≤ 60 ∧ deep y ≤ 60) ∧ P (.bl (!deq x y))) := by
  unfold oNe at h
  split at h
  · exact .inl ⟨_, _, rfl, rfl, h⟩
  · exact .inr h
theorem rop_eq : ROp K (rEqD K) oEq := fun B F pa t env σ H x y v u P Q W rx ry h k => by
  rcases oEq_int h with ⟨i, j, rfl, rfl, p⟩ | ⟨⟨h1, h2, h3, h4⟩, p⟩
  · refine ⟨.int i, .int j, by rw [rx.int W]; exact .int i, by rw [ry.int W]; exact .int j, rfl, rfl, ?_⟩
    refine k _ (.bl (decide (i = j))) F H (Gr.refl _ _) W ?_ p
    rw [show PyData.eqv (.int i) (.int j) = decide (i = j) by simp [PyData.eqv, Bool.beq_eq_decide_eq]]
    exact rD_bl _
  · refine ⟨toPy x, toPy y, dp_x W rx h1, dp_x W ry h2, shaped_toPy h1 h3, shaped_toPy h2 h4, ?_⟩
    rw [eqv_toPy x y h1 h2]
    exact k _ _ F H (Gr.refl _ _) W (rD_bl _) p
theorem rop_ne : ROp K (rNeD K) oNe := fun B F pa t env σ H x y v u P Q W rx ry h k => by
  rcases oNe_int h with ⟨i, j, rfl, rfl, p⟩ | ⟨⟨h1, h2, h3, h4⟩, p⟩
  · refine ⟨.int i, .int j, by rw [rx.int W]; exact .int i, by rw [ry.int W]; exact .int j, rfl, rfl, ?_⟩
    refine k _ (.bl (!decide (i = j))) F H (Gr.refl _ _) W ?_ p
    rw [show PyData.eqv (.int i) (.int j) = decide (i = j) by simp [PyData.eqv, Bool.beq_eq_decide_eq]]
    exact rD_bl _
  · refine ⟨toPy x, toPy y, dp_x W rx h1, dp_x W ry h2, shaped_toPy h1 h3, shaped_toPy h2 h4, ?_⟩
    rw [eqv_toPy x y h1 h2]
    exact k _ _ F H (Gr.refl _ _) W (rD_bl _) p
/-! ### an item by its place -/
theorem atI_rel {F : Hp} {pa : Option Addr} {l : List D} {vs : List V} {i : Int} {d : D} (r : RelL K F pa l vs) (h : Q.atI l i = some d) : ∃ v, L2.atI vs i = some v ∧ RelD K F pa d v := by
  unfold Q.atI at h
  unfold L2.atI L2.ixN
  rw [r.len]
  split at h
  · rename_i h0
    split at h
    · rename_i h1
      obtain ⟨v, q, z⟩ := r.get h
      refine ⟨v, ?_, z⟩
      rw [if_pos h0, if_pos h1]
      exact q
    · cases h
  · rename_i h0
    split at h
    · rename_i h1
      obtain ⟨v, q, z⟩ := r.get h
      refine ⟨v, ?_, z⟩
      rw [if_neg h0, if_pos h1]
      exact q
    · cases h
theorem rop_ix : ROp K (rIx K) oIx := fun B F pa t env σ H x y v u P Q W rx ry h k => by
  cases x with
  | lst l =>
    cases y with
    | int i =>
      obtain ⟨d, hd, p⟩ := h
      obtain ⟨a, vs, rfl, e1, r1⟩ := rx.lst W
      obtain ⟨w, hw, rw'⟩ := atI_rel r1 hd
      exact .inl ⟨a, vs, i, w, rfl, ry.int W, SqL.of e1, hw, k _ _ F H (Gr.refl _ _) W rw' p⟩
    | _ => exact h.elim
  | tup l =>
    cases y with
    | int i =>
      obtain ⟨d, hd, p⟩ := h
      obtain ⟨a, vs, rfl, e1, _, r1⟩ := rx.tup W
      obtain ⟨w, hw, rw'⟩ := atI_rel r1 hd
      exact .inr (.inl ⟨a, vs, i, w, rfl, ry.int W, SqT.of e1, hw, k _ _ F H (Gr.refl _ _) W rw' p⟩)
    | _ => exact h.elim
  | _ => exact h.elim
theorem q_ix (ha : QV X B a da) (hb : QV X B b db) (hs : PlainIx b) : QE X B (.Subscript a b pos) (dOp oIx da db) := PE.imp (pe_ix ix_seq ha hb hs) (ev2 rop_ix)
end
end Q
/-! QH3 -/
namespace Q
open PySem L2 PyProof.Rows
section
variable {X : Cx} {B : Bs} {K : PySem.W.Frag} {a b c e : Expr} {es : List Expr} {pos : Pos} {da db dc : DE} {as : DA}
/-! ### arguments -/
theorem q_anil : QA X B [] dNil := PA.imp pa_nil fun σ H Q ⟨F, pa, t, env, P, C, hd, k⟩ => k [] [] F pa t H (Gr.refl _ _) C RelL.nil hd
theorem q_acons {r : DA} (ha : QE X B e da) (hr : QA X B es r) (hs : starEach (e :: es) X.env = (false, eval e X.env) :: starEach es X.env := by rfl) : QA X B (e :: es) (dCons da r) := PA.imp (pa_cons ha hr hs) fun σ H Q ⟨F, pa, t, env, P, C, hd, k⟩ =>
  ⟨F, pa, t, env, _, C, hd, fun v d F1 pa1 t1 H1 g1 C1 r1 q1 => ⟨F1, pa1, t1, env, _, C1, q1, fun vs ds F2 pa2 t2 H2 g2 C2 r2 q2 => k _ _ F2 pa2 t2 H2 (g1.trans g2) C2 (.cons (RelD.mono g2 d v r1) r2) q2⟩⟩
theorem q_xnil : QX X B [] dNil := PA.imp pa_nil fun σ H Q ⟨F, pa, t, env, P, C, hd, k⟩ => k [] [] F pa t H (Gr.refl _ _) C .nil hd
theorem q_xcons {r : DA} (ha : QV X B e da) (hr : QX X B es r) (hs : starEach (e :: es) X.env = (false, eval e X.env) :: starEach es X.env := by rfl) : QX X B (e :: es) (dCons da r) := PA.imp (pa_cons ha hr hs) fun σ H Q ⟨F, pa, t, env, P, C, hd, k⟩ =>
  ⟨F, pa, t, env, _, C, hd, fun v d F1 pa1 t1 H1 g1 C1 r1 q1 => ⟨F1, pa1, t1, env, _, C1, q1, fun vs ds F2 pa2 t2 H2 g2 C2 r2 q2 => k _ _ F2 pa2 t2 H2 (g1.trans g2) C2 (.cons (r1.mono g2) r2) q2⟩⟩
theorem q_lst (h : QA X B es as) : QN X B (.List es pos) (dLst as) := PE.imp (pe_lst h) fun σ H Q ⟨F, pa, t, env, P, C, hd, k⟩ => ⟨F, pa, t, env, _, C, hd, fun vs ds F' pa' t' H' g C' r q => by
  obtain ⟨hl, q⟩ := few_of q
  refine ⟨by rw [r.len]; exact hl, fun p hp => ?_⟩
  exact k p _ (.lst ds) F' pa' t' _ g (C'.loose _ hp) (C'.nw hp) upd_same ⟨vs, rfl, r⟩ q⟩
theorem q_tup {x1} (h : QA X B es as) : QE X B (.Tuple es x1 pos) (dTup as) := PE.imp (pe_tup h) fun σ H Q ⟨F, pa, t, env, P, C, hd, k⟩ => ⟨F, pa, t, env, _, C, hd, fun vs ds F' pa' t' H' g C' r q => by
  obtain ⟨hl, q⟩ := few_of q
  refine ⟨by rw [r.len]; exact hl, fun p hp => ?_⟩
  obtain ⟨F2, g2, C2, rd⟩ := new_tup C' hp r
  exact k _ _ F2 pa' t' _ (g.trans g2) C2 rd q⟩
/-! ### built-in functions -/
def RCall (K : PySem.W.Frag) (r : List V → Hp → VK → Prop) (o : DB) : Prop := ∀ (B : Bs) F pa t env σ H xs vs P (Q : VK), Cf K B F pa t env σ H → RelXs K F pa env σ xs vs → o xs P →
  (∀ w d F' H', Gr F pa F' pa → Cf K B F' pa t env σ H' → RelD K F' pa d w → P d → Q w H') → r vs H Q
/-- a new list comes -/
def RCallN (K : PySem.W.Frag) (r : List V → Hp → VK → Prop) (o : DB) : Prop := ∀ (B : Bs) F pa t env σ H xs vs P (Q : VK), Cf K B F pa t env σ H → RelXs K F pa env σ xs vs → o xs P →
  (∀ p h d F' H', Gr F pa F' pa → Cf K B F' pa t env σ H' → Nw B F' pa t env σ p → H' p = some h → RelO1 K F' pa d h → P d → Q (.ref p) H') → r vs H Q
theorem ev_cb {r : List V → Hp → VK → Prop} {o : DB} (hr : RCall K r o) : ∀ σ H Q, teOf K B (dCB o as) σ H Q → tCB r (txOf K B as) σ H Q := fun σ H Q ⟨F, pa, t, env, P, C, hd, k⟩ =>
  ⟨F, pa, t, env, _, C, hd, fun vs ds F1 pa1 t1 H1 g1 C1 r1 q1 => hr B F1 pa1 t1 env σ H1 ds vs _ Q C1 r1 q1 fun w d F' H' g3 C3 r3 q3 => k w d F' pa1 t1 H' (g1.trans g3) C3 r3 q3⟩
theorem ev_cbN {r : List V → Hp → VK → Prop} {o : DB} (hr : RCallN K r o) : ∀ σ H Q, tnOf K B (dCB o as) σ H Q → tCB r (txOf K B as) σ H Q := fun σ H Q ⟨F, pa, t, env, P, C, hd, k⟩ =>
  ⟨F, pa, t, env, _, C, hd, fun vs ds F1 pa1 t1 H1 g1 C1 r1 q1 => hr B F1 pa1 t1 env σ H1 ds vs _ Q C1 r1 q1 fun p h d F' H' g3 C3 n3 e3 r3 q3 => k p h d F' pa1 t1 H' (g1.trans g3) C3 n3 e3 r3 q3⟩
section
variable {x : Str} {p : Pos} {id T : String} {r : List V → Hp → VK → Prop} {o : DB}
theorem q_callB (hc : CallR X (.builtin id) r) (hr : RCall X.K r o) (hg : Gl X x) (hm : X.mg x = none) (hv : bootBuiltins x = some (.builtin id)) (ha : QX X B (e :: es) as) (hn : x ≠ "__name__" := by decide) (hdb : (x == ("__debug__" : Str)) = false := by decide)
    (he : starEach (e :: es) X.env = (false, eval e X.env) :: starEach es X.env := by rfl) (hpl : (backTo pos (starEach es X.env)).any (·.1) = false := by rfl) : QE X B (.Call (.Name x p) (e :: es) [] pos) (dCB o as) := PE.imp (pe_callB hc hg hm hv ha hn hdb he hpl) (ev_cb hr)
theorem q_callTy (hc : CallR X (.type T) r) (hr : RCall X.K r o) (hg : Gl X x) (hm : X.mg x = none) (hv : bootBuiltins x = some (.type T)) (ha : QX X B (e :: es) as) (hn : x ≠ "__name__" := by decide) (hdb : (x == ("__debug__" : Str)) = false := by decide)
    (he : starEach (e :: es) X.env = (false, eval e X.env) :: starEach es X.env := by rfl) (hpl : (backTo pos (starEach es X.env)).any (·.1) = false := by rfl) : QE X B (.Call (.Name x p) (e :: es) [] pos) (dCB o as) := PE.imp (pe_callTy hc hg hm hv ha hn hdb he hpl) (ev_cb hr)
theorem q_callTyN (hc : CallR X (.type T) r) (hr : RCallN X.K r o) (hg : Gl X x) (hm : X.mg x = none) (hv : bootBuiltins x = some (.type T)) (ha : QX X B (e :: es) as) (hn : x ≠ "__name__" := by decide) (hdb : (x == ("__debug__" : Str)) = false := by decide)
    (he : starEach (e :: es) X.env = (false, eval e X.env) :: starEach es X.env := by rfl) (hpl : (backTo pos (starEach es X.env)).any (·.1) = false := by rfl) : QN X B (.Call (.Name x p) (e :: es) [] pos) (dCB o as) := PE.imp (pe_callTy hc hg hm hv ha hn hdb he hpl) (ev_cbN hr)
end
theorem RelXs.one {F : Hp} {pa : Option Addr} {env : En} {σ : L2.St} {d : D} {vs : List V} (r : RelXs K F pa env σ [d] vs) : ∃ v, vs = [v] ∧ RelX K F pa env σ d v := by
  cases r with
  | cons h q => cases q; exact ⟨_, rfl, h⟩
theorem RelXs.two {F : Hp} {pa : Option Addr} {env : En} {σ : L2.St} {d d' : D} {vs : List V} (r : RelXs K F pa env σ [d, d'] vs) : ∃ v v', vs = [v, v'] ∧ RelX K F pa env σ d v ∧ RelX K F pa env σ d' v' := by
  cases r with
  | cons h q => cases q with
    | cons h' q => cases q; exact ⟨_, _, rfl, h, h'⟩
def rLen3 (K : PySem.W.Frag) : List V → Hp → VK → Prop := fun xs H Q => (∃ p ys, xs = [.ref p] ∧ (SqL K H p ys ∨ SqT K H p ys) ∧ Q (.int ys.length) H) ∨ ∃ z, xs = [.str z] ∧ z.length ≤ sizeLine ∧ Q (.int z.length) H
theorem call_len3 : CallR X (.builtin "len") (rLen3 X.K) := call_len_seq.or call_len_str
theorem rc_len : RCall K (rLen3 K) bLen := fun B F pa t env σ H xs vs P Q W r h k => by
  unfold bLen at h
  split at h
  · obtain ⟨v, rfl, r1⟩ := r.one
    obtain ⟨a, us, rfl, e, q⟩ := r1.lst W
    exact .inl ⟨a, us, rfl, .inl (SqL.of e), k _ _ F H (Gr.refl _ _) W (by rw [q.len]; exact rD_int _) h⟩
  · obtain ⟨v, rfl, r1⟩ := r.one
    obtain ⟨a, us, rfl, e, _, q⟩ := r1.tup W
    exact .inl ⟨a, us, rfl, .inr (SqT.of e), k _ _ F H (Gr.refl _ _) W (by rw [q.len]; exact rD_int _) h⟩
  · obtain ⟨v, rfl, r1⟩ := r.one
    obtain ⟨a, rfl, q⟩ := r1.scr W
    exact .inl ⟨a, _, rfl, .inl q, k _ _ F H (Gr.refl _ _) W (by rw [List.length_map]; exact rD_int _) h⟩
  · obtain ⟨v, rfl, r1⟩ := r.one
    exact .inr ⟨_, by rw [r1.str W], zle h.1, k _ _ F H (Gr.refl _ _) W (rD_int _) h.2⟩
  · exact h.elim
def rAbs : List V → Hp → VK → Prop := fun xs H Q => ∃ i, xs = [.int i] ∧ Q (.int (if i < 0 then -i else i)) H
theorem rc_abs : RCall K rAbs bAbs := fun B F pa t env σ H xs vs P Q W r h k => by
  unfold bAbs at h
  split at h
  · obtain ⟨v, rfl, r1⟩ := r.one
    exact ⟨_, by rw [r1.int W], k _ _ F H (Gr.refl _ _) W (rD_int _) h⟩
  · exact h.elim
def rMax2 (K : PySem.W.Frag) : List V → Hp → VK → Prop := fun xs H Q => (∃ i j, xs = [.int i, .int j] ∧ Q (.int (if j > i then j else i)) H) ∨ rMax K xs H Q
theorem call_max3 (hc : X.calm = true) : CallR X (.builtin "max") (rMax2 X.K) := (call_max2 hc).or (cr_max hc)
theorem rc_max : RCall K (rMax2 K) bMax := fun B F pa t env σ H xs vs P Q W r h k => by
  unfold bMax at h
  split at h
  · obtain ⟨v, v', rfl, r1, r2⟩ := r.two
    exact .inl ⟨_, _, by rw [r1.int W, r2.int W], k _ _ F H (Gr.refl _ _) W (rD_int _) h⟩
  · obtain ⟨v, rfl, r1⟩ := r.one
    obtain ⟨ns, hn, h0, hp⟩ := h
    obtain ⟨a, us, rfl, e, q⟩ := r1.lst W
    rw [q.intsD hn] at e
    exact .inr ⟨a, ns, rfl, SqL.of e, h0, fun m h1 h2 => k _ _ F H (Gr.refl _ _) W (rD_int _) (hp m h1 h2)⟩
  · exact h.elim
def rMin2 (K : PySem.W.Frag) : List V → Hp → VK → Prop := fun xs H Q => (∃ i j, xs = [.int i, .int j] ∧ Q (.int (if j < i then j else i)) H) ∨ rMin K xs H Q
theorem call_min3 (hc : X.calm = true) : CallR X (.builtin "min") (rMin2 X.K) := (call_min2 hc).or (cr_min hc)
theorem rc_min : RCall K (rMin2 K) bMin := fun B F pa t env σ H xs vs P Q W r h k => by
  unfold bMin at h
  split at h
  · obtain ⟨v, v', rfl, r1, r2⟩ := r.two
    exact .inl ⟨_, _, by rw [r1.int W, r2.int W], k _ _ F H (Gr.refl _ _) W (rD_int _) h⟩
  · obtain ⟨v, rfl, r1⟩ := r.one
    obtain ⟨ns, hn, h0, hp⟩ := h
    obtain ⟨a, us, rfl, e, q⟩ := r1.lst W
    rw [q.intsD hn] at e
    exact .inr ⟨a, ns, rfl, SqL.of e, h0, fun m h1 h2 => k _ _ F H (Gr.refl _ _) W (rD_int _) (hp m h1 h2)⟩
  · exact h.elim
theorem rc_sum : RCall K (rSum K) bSum := fun B F pa t env σ H xs vs P Q W r h k => by
  unfold bSum at h
  split at h
  · obtain ⟨v, rfl, r1⟩ := r.one
    obtain ⟨ns, hn, hp⟩ := h
    obtain ⟨a, us, rfl, e, q⟩ := r1.lst W
    rw [q.intsD hn] at e
    exact ⟨a, ns, rfl, SqL.of e, k _ _ F H (Gr.refl _ _) W (rD_int _) hp⟩
  · exact h.elim
theorem rc_all : RCall K (rAll K) bAll := fun B F pa t env σ H xs vs P Q W r h k => by
  unfold bAll at h
  split at h
  · obtain ⟨v, rfl, r1⟩ := r.one
    obtain ⟨ns, hn, hp⟩ := h
    obtain ⟨a, us, rfl, e, q⟩ := r1.lst W
    rw [q.bls hn] at e
    exact ⟨a, ns, rfl, SqL.of e, k _ _ F H (Gr.refl _ _) W (rD_bl _) hp⟩
  · exact h.elim
def rDivmod : List V → Hp → VK → Prop := fun xs H Q => ∃ i j, xs = [.int i, .int j] ∧ CDiv i j ∧ ∀ p, H p = none → Q (.ref p) (upd H p (.tup [.int (i / j), .int (i % j)]))
theorem rc_divmod : RCall K rDivmod bDivmod := fun B F pa t env σ H xs vs P Q W r h k => by
  unfold bDivmod at h
  split at h
  · obtain ⟨v, v', rfl, r1, r2⟩ := r.two
    refine ⟨_, _, by rw [r1.int W, r2.int W], h.1, fun p hp => ?_⟩
    obtain ⟨F', g, C', rd⟩ := new_tup W hp (RelL.cons (rD_int _) (RelL.cons (rD_int _) RelL.nil))
    exact k _ _ F' _ g C' rd h.2
  · exact h.elim
def rListOf (K : PySem.W.Frag) : List V → Hp → VK → Prop := fun xs H Q => ∃ p ys, xs = [.ref p] ∧ (SqL K H p ys ∨ SqT K H p ys) ∧ ∀ l, H l = none → Q (.ref l) (upd H l (.lst ys))
theorem rc_list : RCallN K (rListOf K) bList := fun B F pa t env σ H xs vs P Q W r h k => by
  unfold bList at h
  split at h
  · obtain ⟨v, rfl, r1⟩ := r.one
    obtain ⟨a, us, rfl, e, q⟩ := r1.lst W
    exact ⟨a, us, rfl, .inl (SqL.of e), fun p hp => k p _ (.lst _) F _ (Gr.refl _ _) (W.loose _ hp) (W.nw hp) upd_same ⟨us, rfl, q⟩ h⟩
  · obtain ⟨v, rfl, r1⟩ := r.one
    obtain ⟨a, us, rfl, e, _, q⟩ := r1.tup W
    exact ⟨a, us, rfl, .inr (SqT.of e), fun p hp => k p _ (.lst _) F _ (Gr.refl _ _) (W.loose _ hp) (W.nw hp) upd_same ⟨us, rfl, q⟩ h⟩
  · exact h.elim
def rTupOf (K : PySem.W.Frag) : List V → Hp → VK → Prop := fun xs H Q => ∃ p ys, xs = [.ref p] ∧ ((SqL K H p ys ∧ ∀ l, H l = none → Q (.ref l) (upd H l (.tup ys))) ∨ (SqT K H p ys ∧ Q (.ref p) H))
theorem rc_tuple : RCall K (rTupOf K) bTuple := fun B F pa t env σ H xs vs P Q W r h k => by
  unfold bTuple at h
  split at h
  · obtain ⟨v, rfl, r1⟩ := r.one
    obtain ⟨a, us, rfl, e, q⟩ := r1.lst W
    refine ⟨a, us, rfl, .inl ⟨SqL.of e, fun p hp => ?_⟩⟩
    obtain ⟨F', g, C', rd⟩ := new_tup W hp q
    exact k _ _ F' _ g C' rd h
  · obtain ⟨v, rfl, r1⟩ := r.one
    obtain ⟨a, us, rfl, e, f, q⟩ := r1.tup W
    refine ⟨a, us, rfl, .inr ⟨SqT.of e, k _ (.tup _) F H (Gr.refl _ _) W ?_ h⟩⟩
    unfold RelD
    exact ⟨a, us, rfl, f, q⟩
  · exact h.elim
/-! ### slices -/
theorem q_onone : QO X B none dNoPart := PO.imp po_none fun σ H Q ⟨F, pa, t, env, P, C, hd, k⟩ => k none F pa t H (Gr.refl _ _) C hd
theorem q_osome (h : QV X B e da) : QO X B (some e) (dPart da) := PO.imp (po_some h) fun σ H Q ⟨F, pa, t, env, P, C, hd, k⟩ => ⟨F, pa, t, env, _, C, hd, fun v d F' pa' t' H' g C' r q => by
  cases d with
  | int i =>
    have q : P (some i) t' := q
    exact ⟨i, r.int C', k _ F' pa' t' H' g C' q⟩
  | _ => exact q.elim⟩
theorem sIx_eq (n d : Nat) : ∀ o : Option Int, HT.sIx n d o = Q.sIx n d o
  | none => rfl
  | some i => by simp only [HT.sIx, Q.sIx]; split <;> first | rfl | (congr 1; omega)
theorem cut_rel {F : Hp} {pa : Option Addr} {l : List D} {vs : List V} (r : RelL K F pa l vs) (lo hi : Option Int) : RelL K F pa (cutD l lo hi) (cutV vs lo hi) := by
  unfold cutD cutV
  rw [r.len, sIx_eq, sIx_eq]
  exact (r.drop _).take _
def rSl2 (K : PySem.W.Frag) : V → Option Int → Option Int → Hp → VK → Prop := fun x l h H Q => rSlL K x l h H Q ∨ rSlT K x l h H Q
theorem sl2 : SlR X (rSl2 X.K) := sl_list.or sl_tup
theorem q_slice {lo hi : Option Expr} {dl dh : DO} {p2 : Pos} (ha : QV X B a da) (hl : QO X B lo dl) (hh : QO X B hi dh) : QE X B (.Subscript a (.Slice lo hi none p2) pos) (dSlice da dl dh) := PE.imp (pe_slice sl2 ha hl hh) fun σ H Q ⟨F, pa, t, env, P, C, hd, k⟩ =>
  ⟨F, pa, t, env, _, C, hd, fun v x F1 pa1 t1 H1 g1 C1 r1 q1 => ⟨F1, pa1, t1, env, _, C1, q1, fun l F2 pa2 t2 H2 g2 C2 q2 => ⟨F2, pa2, t2, env, _, C2, q2, fun h F3 pa3 t3 H3 g3 C3 q3 => by
    have r3 := (r1.mono g2).mono g3
    cases x with
    | lst xs =>
      obtain ⟨a, us, rfl, e, q⟩ := r3.lst C3
      refine .inl ⟨a, us, rfl, SqL.of e, fun p hp => ?_⟩
      obtain ⟨F', g, C', rd⟩ := new_lst C3 hp (cut_rel q l h)
      exact k _ _ F' _ _ _ (((g1.trans g2).trans g3).trans g) C' rd q3
    | tup xs =>
      obtain ⟨a, us, rfl, e, f, q⟩ := r3.tup C3
      obtain ⟨hz, q3⟩ := q3
      have rr := cut_rel q l h
      refine .inr ⟨a, us, rfl, SqT.of e, ?_, fun p hp => ?_⟩
      · rw [q.len, sIx_eq, sIx_eq]
        rintro ⟨z1, z2⟩
        unfold cutD at hz
        rw [z1, z2] at hz
        simp at hz
      · obtain ⟨F', g, C', rd⟩ := new_tup C3 hp rr
        exact k _ _ F' _ _ _ (((g1.trans g2).trans g3).trans g) C' rd q3
    | scr ns =>
      obtain ⟨a, rfl, q⟩ := r3.scr C3
      refine .inl ⟨a, _, rfl, q, fun p hp => ?_⟩
      obtain ⟨F', g, C', rd⟩ := new_lst C3 hp (cut_rel (RelL.of_ints ns) l h)
      exact k _ _ F' _ _ _ (((g1.trans g2).trans g3).trans g) C' rd q3
    | _ => exact q3.elim⟩⟩⟩
theorem q_rev {k : Nat} {p1 p2 p3 pos : Pos} (ha : QV X B a da) : QN X B (.Subscript a (.Slice none none (some (.UnaryOp .USub (.Constant (.int 1) k p1) p2)) p3) pos) (dRev da) := PE.imp (pe_revL ha) fun σ H Q ⟨F, pa, t, env, P, C, hd, k⟩ =>
  ⟨F, pa, t, env, _, C, hd, fun v x F1 pa1 t1 H1 g1 C1 r1 q1 => by
    cases x with
    | lst xs =>
      obtain ⟨a, us, rfl, e, q⟩ := r1.lst C1
      exact ⟨a, us, rfl, SqL.of e, fun p hp => k p _ (.lst _) F1 pa1 t1 _ g1 (C1.loose _ hp) (C1.nw hp) upd_same ⟨_, rfl, q.reverse⟩ q1⟩
    | _ => exact q1.elim⟩
/-! ### tests -/
theorem q_tval (h : QE X B e da) (he : ∀ whole, isTrue e X.env whole = (do let v ← whole; standAt e.pos; holding [v] (truthy v)) := by intro _; rfl) : QT X B e (dB da) := PT.imp (pt_val h he) fun σ H Q ⟨F, pa, t, env, P, C, hd, k⟩ => ⟨F, pa, t, env, _, C, hd, fun v d F' pa' t' H' g C' r q => by
  cases d with
  | bl b => unfold RelD at r; exact ⟨b, r, k b F' pa' t' H' g C' q⟩
  | _ => exact q.elim⟩
variable {ta tb : DT} {rest : List Expr}
theorem q_and1 (ha : QT X B a ta) : QW X B (.BoolOp .And [a] pos) ta := pw_and1 ha
theorem q_or1 (ha : QT X B a ta) : QW X B (.BoolOp .Or [a] pos) ta := pw_or1 ha
theorem q_and (ha : QT X B a ta) (hb : QW X B (.BoolOp .And (b :: rest) pos) tb) : QW X B (.BoolOp .And (a :: b :: rest) pos) (dAnd ta tb) := PW.imp (pw_and ha hb) fun σ H Q ⟨F, pa, t, env, P, C, hd, k⟩ =>
  ⟨F, pa, t, env, _, C, hd, fun b F' pa' t' H' g C' q => by
    cases b with
    | true => rw [if_pos rfl]; exact ⟨F', pa', t', env, _, C', q, fun c F2 pa2 t2 H2 g2 C2 q2 => k c F2 pa2 t2 H2 (g.trans g2) C2 q2⟩
    | false => rw [if_neg Bool.false_ne_true]; exact k false F' pa' t' H' g C' q⟩
theorem q_or (ha : QT X B a ta) (hb : QW X B (.BoolOp .Or (b :: rest) pos) tb) : QW X B (.BoolOp .Or (a :: b :: rest) pos) (dOr ta tb) := PW.imp (pw_or ha hb) fun σ H Q ⟨F, pa, t, env, P, C, hd, k⟩ =>
  ⟨F, pa, t, env, _, C, hd, fun b F' pa' t' H' g C' q => by
    cases b with
    | false => rw [if_neg Bool.false_ne_true]; exact ⟨F', pa', t', env, _, C', q, fun c F2 pa2 t2 H2 g2 C2 q2 => k c F2 pa2 t2 H2 (g.trans g2) C2 q2⟩
    | true => rw [if_pos rfl]; exact k true F' pa' t' H' g C' q⟩
theorem q_not (ha : QT X B a ta) : QT X B (.UnaryOp .Not a pos) (dNot ta) := PT.imp (pt_not ha) fun σ H Q ⟨F, pa, t, env, P, C, hd, k⟩ =>
  ⟨F, pa, t, env, _, C, hd, fun b F' pa' t' H' g C' q => k (!b) F' pa' t' H' g C' q⟩
theorem q_ifE (hc : QT X B c ta) (ha : QE X B a da) (hb : QE X B b db) : QE X B (.IfExp c a b pos) (dIfE ta da db) := PE.imp (pe_ifExp hc ha hb) fun σ H Q ⟨F, pa, t, env, P, C, hd, k⟩ =>
  ⟨F, pa, t, env, _, C, hd, fun b F' pa' t' H' g C' q => by
    cases b with
    | true => rw [if_pos rfl]; exact ⟨F', pa', t', env, P, C', q, fun w d F2 pa2 t2 H2 g2 C2 r2 q2 => k w d F2 pa2 t2 H2 (g.trans g2) C2 r2 q2⟩
    | false => rw [if_neg Bool.false_ne_true]; exact ⟨F', pa', t', env, P, C', q, fun w d F2 pa2 t2 H2 g2 C2 r2 q2 => k w d F2 pa2 t2 H2 (g.trans g2) C2 r2 q2⟩⟩
theorem q_one {op} (h : QE X B a da) : QE X B (.BoolOp op [a] pos) da := pe_one h
theorem q_andV (ha : QE X B a da) (hb : QE X B (.BoolOp .And (b :: rest) pos) db) : QE X B (.BoolOp .And (a :: b :: rest) pos) (dAndV da db) := PE.imp (pe_and ha hb) fun σ H Q ⟨F, pa, t, env, P, C, hd, k⟩ =>
  ⟨F, pa, t, env, _, C, hd, fun v d F' pa' t' H' g C' r q => by
    cases d with
    | bl b =>
      unfold RelD at r
      refine ⟨b, r, ?_⟩
      cases b with
      | true => rw [if_pos rfl]; exact ⟨F', pa', t', env, P, C', q, fun w d F2 pa2 t2 H2 g2 C2 r2 q2 => k w d F2 pa2 t2 H2 (g.trans g2) C2 r2 q2⟩
      | false => rw [if_neg Bool.false_ne_true]; exact k _ _ F' pa' t' H' g C' (rD_bl _) q
    | _ => exact q.elim⟩
theorem q_notV (ha : QE X B a da) : QE X B (.UnaryOp .Not a pos) (dNotV da) := PE.imp (pe_not ha) fun σ H Q ⟨F, pa, t, env, P, C, hd, k⟩ =>
  ⟨F, pa, t, env, _, C, hd, fun v d F' pa' t' H' g C' r q => by
    cases d with
    | bl b =>
      unfold RelD at r
      exact ⟨b, r, k _ _ F' pa' t' H' g C' (rD_bl _) q⟩
    | _ => exact q.elim⟩
end
end Q
/-! QH4 -/
namespace Q
open PySem L2 PyProof.Rows
section
variable {X : Cx} {B : Bs} {K : PySem.W.Frag} {a b c e : Expr} {es : List Expr} {pos : Pos} {da db dc : DE} {as : DA}
/-- two comparisons -/
theorem ev_chain {r r' : R2} {o o' : DOp} (hr : ROp K r o) (hr' : ROp K r' o') : ∀ σ H Q, teOf K B (dChain o o' da db dc) σ H Q → tChain r r' (tvOf K B da) (tvOf K B db) (tvOf K B dc) σ H Q := fun σ H Q ⟨F, pa, t, env, P, C, hd, k⟩ =>
  ⟨F, pa, t, env, _, C, hd, fun v x F1 pa1 t1 H1 g1 C1 r1 q1 => ⟨F1, pa1, t1, env, _, C1, q1, fun u y F2 pa2 t2 H2 g2 C2 r2 q2 =>
    hr B F2 pa2 t2 env σ H2 x y v u _ _ C2 (r1.mono g2) r2 q2 fun z d F3 H3 g3 C3 r3 q3 => by
      cases d with
      | bl k' =>
        unfold RelD at r3
        refine ⟨k', r3, ?_⟩
        cases k' with
        | true =>
          rw [if_pos rfl]
          exact ⟨F3, pa2, t2, env, _, C3, q3, fun w dw F4 pa4 t4 H4 g4 C4 r4 q4 => hr' B F4 pa4 t4 env σ H4 y dw u w _ Q C4 ((r2.mono g3).mono g4) r4 q4 fun w d F' H' g5 C5 r5 q5 =>
            k w d F' pa4 t4 H' ((((g1.trans g2).trans g3).trans g4).trans g5) C5 r5 q5⟩
        | false =>
          rw [if_neg Bool.false_ne_true]
          exact k _ _ F3 pa2 t2 H3 ((g1.trans g2).trans g3) C3 (rD_bl _) q3
      | _ => exact q3.elim⟩⟩
theorem q_chain {op op' : CmpOp} {r r' : R2} {o o' : DOp} (ho : OpR X (compareOp op) r) (hr : ROp X.K r o) (ho' : OpR X (compareOp op') r') (hr' : ROp X.K r' o') (ha : QV X B a da) (hb : QV X B b db) (hc : QV X B c dc)
    (hm : lastMarks [op, op'] [b, c] = false := by with_unfolding_all rfl) : QE X B (.Compare a [op, op'] [b, c] pos) (dChain o o' da db dc) := PE.imp (pe_chain ho ho' ha hb hc hm) (ev_chain hr hr')
theorem q_tchain {op op' : CmpOp} {r r' : R2} {o o' : DOp} (ho : OpR X (compareOp op) r) (hr : ROp X.K r o) (ho' : OpR X (compareOp op') r') (hr' : ROp X.K r' o') (ha : QV X B a da) (hb : QV X B b db) (hc : QV X B c dc)
    (hm : lastMarks [op, op'] [b, c] = false := by with_unfolding_all rfl) : QT X B (.Compare a [op, op'] [b, c] pos) (dB (dChain o o' da db dc)) := PT.imp (pt_chain ho ho' ha hb hc hm) fun σ H Q ⟨F, pa, t, env, P, C, hd, k⟩ => by
  refine ev_chain hr hr' σ H _ ⟨F, pa, t, env, _, C, hd, fun v d F' pa' t' H' g C' rd q => ?_⟩
  cases d with
  | bl b => unfold RelD at rd; exact ⟨b, rd, k b F' pa' t' H' g C' q⟩
  | _ => exact q.elim
/-! ### fields of frozen instances, calls of defs and methods -/
theorem zip_lookup {F : Hp} {pa : Option Addr} {f : Str} : ∀ {ns : List Str} {l : List D} {vs : List V} {d : D}, RelL K F pa l vs → (ns.zip l).lookup f = some d → ∃ v, (ns.zip vs).lookup f = some v ∧ RelD K F pa d v
  | [], _, _, _, _, h => by simp at h
  | _ :: _, [], _, _, _, h => by simp at h
  | n :: ns, x :: l, vs, d, r, h => by
    obtain ⟨v, vr, rfl, r1, r2⟩ := r.inv
    simp only [List.zip_cons_cons, List.lookup_cons] at h ⊢
    cases q : f == n with
    | true =>
      rw [q] at h; cases h
      exact ⟨v, rfl, r1⟩
    | false =>
      rw [q] at h
      exact zip_lookup r2 h
theorem zip_none {f : Str} : ∀ {ns : List Str} {vs : List V}, ns.contains f = false → (ns.zip vs).lookup f = none
  | [], _, _ => by simp
  | _ :: _, [], _ => by simp
  | n :: ns, v :: vs, h => by
    simp only [List.contains_cons, Bool.or_eq_false_iff] at h
    simp only [List.zip_cons_cons, List.lookup_cons, h.1]
    exact zip_none h.2
/-- a field of an instance of a class of the text -/
theorem q_fld {f : Str} {Cl : Addr} (ha : QV X B e da) (cl : Cls X.K Cl) (na : NoAttr X.K Cl f) (hb : attributeBase e f X.env (eval e X.env) = eval e X.env := by rfl) : QE X B (.Attribute e f pos) (dFld Cl f da) := PE.imp (pe_fld ha hb) fun σ H Q ⟨F, pa, t, env, P, C, hd, k⟩ =>
  ⟨F, pa, t, env, _, C, hd, fun v x F1 pa1 t1 H1 g1 C1 r1 q1 => by
    cases x with
    | ins C' ns l =>
      obtain ⟨rfl, q1⟩ := q1
      obtain ⟨a, dx, us, rfl, e1, _, r⟩ := r1.ins C1
      cases z : (ns.zip l).lookup f with
      | none => rw [z] at q1; exact q1.elim
      | some d =>
        rw [z] at q1
        obtain ⟨w, h1, h2⟩ := zip_lookup r z
        exact ⟨a, C', dx, _, w, rfl, e1, cl, na, h1, k w d F1 pa1 t1 H1 g1 C1 h2 q1⟩
    | _ => exact q1.elim⟩
end
/-- a def's promise, at the heap -/
def lift (K : PySem.W.Frag) (sp : PSp) : Sp := fun vs H Q E => ∃ F pa t ds P, Cf K (B0 F pa t H) F pa t [] [] H ∧ RelL K F pa ds vs ∧ sp ds t P ∧
  ∀ v d F' pa' t' H', Cf K (B0 F pa t H) F' pa' t' [] [] H' → RelD K F' pa' d v → P d t' → Q v H'
/-- .. that gives a new list -/
def liftN (K : PySem.W.Frag) (sp : PSp) : Sp := fun vs H Q E => ∃ F pa t ds P, Cf K (B0 F pa t H) F pa t [] [] H ∧ RelL K F pa ds vs ∧ sp ds t P ∧
  ∀ p h d F' pa' t' H', Cf K (B0 F pa t H) F' pa' t' [] [] H' → F' p = none → H p = none → pa' ≠ some p → t'.obs p = none → H' p = some h → RelO1 K F' pa' d h → P d t' → Q (.ref p) H'
section
variable {X : Cx} {B : Bs} {K : PySem.W.Frag} {a b c e o : Expr} {es : List Expr} {pos : Pos} {da db dc : DE} {as : DA} {CX : CXT} {k : Nat} {f C : Addr} {fd : FuncData} {ps : List Str} {sp : PSp} {dvs : List V} {dds : List D} {ds : List Value} {E : XK} {x m : Str} {p apos : Pos}
theorem ev_call (hd : ∀ F pa, RelL K F pa dds dvs) : ∀ σ H Q, teOf K B (dCall sp dds as) σ H Q → tCall (lift K sp) dvs E (taOf K B as) σ H Q := fun σ H Q ⟨F, pa, t, env, P, W, h, k⟩ =>
  ⟨F, pa, t, env, _, W, h, fun vs xs F1 pa1 t1 H1 g1 W1 r1 q1 => ⟨F1, pa1, t1, xs ++ dds, P, W1.call, r1.append (hd _ _), q1, fun v d F' pa' t' H' W' r' q' => by
    obtain ⟨g, W2⟩ := W1.after W'
    exact k v d F' pa' t' H' (g1.trans g) W2 r' q'⟩⟩
theorem ev_callN (hd : ∀ F pa, RelL K F pa dds dvs) : ∀ σ H Q, tnOf K B (dCall sp dds as) σ H Q → tCall (liftN K sp) dvs E (taOf K B as) σ H Q := fun σ H Q ⟨F, pa, t, env, P, W, h, k⟩ =>
  ⟨F, pa, t, env, _, W, h, fun vs xs F1 pa1 t1 H1 g1 W1 r1 q1 => ⟨F1, pa1, t1, xs ++ dds, P, W1.call, r1.append (hd _ _), q1, fun p hh d F' pa' t' H' W' n1 n2 n3 n4 e' r' q' => by
    obtain ⟨g, W2⟩ := W1.after W'
    refine k p hh d F' pa' t' H' (g1.trans g) W2 ⟨n1, (W1.fresh n2).2.1, n3, fun j d' ej sj => ?_, n4⟩ e' r' q'
    obtain ⟨a, u, s1, e1, _⟩ := W1.own j d' ej
    rw [sj] at s1
    cases s1
    rw [n2] at e1; cases e1⟩⟩
theorem q_call (F : FnOk X.prog X.w X.K X.mg X.base CX k f fd ps (lift X.K sp)) (hr : Room k X.A) (hg : Gl X x) (hm : X.mg x = some (.ref f)) (hk : PySem.W.keepIn X.K (.ref f) = true) (hb : Binds X.K fd ps ds) (hd : Vals dvs ds) (hD : ∀ F pa, RelL X.K F pa dds dvs) (hx : Passes CX X E)
    (ha : QA X B (e :: es) as) (hdb : (x == ("__debug__" : Str)) = false := by decide) (he : starEach (e :: es) X.env = (false, eval e X.env) :: starEach es X.env := by rfl) (hpl : (backTo pos (starEach es X.env)).any (·.1) = false := by rfl) :
    QE X B (.Call (.Name x p) (e :: es) [] pos) (dCall sp dds as) := PE.imp (pe_call F hr hg hm hk hb hd hx ha hdb he hpl) (ev_call hD)
theorem q_callN (F : FnOk X.prog X.w X.K X.mg X.base CX k f fd ps (liftN X.K sp)) (hr : Room k X.A) (hg : Gl X x) (hm : X.mg x = some (.ref f)) (hk : PySem.W.keepIn X.K (.ref f) = true) (hb : Binds X.K fd ps ds) (hd : Vals dvs ds) (hD : ∀ F pa, RelL X.K F pa dds dvs) (hx : Passes CX X E)
    (ha : QA X B (e :: es) as) (hdb : (x == ("__debug__" : Str)) = false := by decide) (he : starEach (e :: es) X.env = (false, eval e X.env) :: starEach es X.env := by rfl) (hpl : (backTo pos (starEach es X.env)).any (·.1) = false := by rfl) :
    QN X B (.Call (.Name x p) (e :: es) [] pos) (dCall sp dds as) := PE.imp (pe_call F hr hg hm hk hb hd hx ha hdb he hpl) (ev_callN hD)
/-- a method of a frozen instance -/
theorem ev_meth (hd : ∀ F pa, RelL K F pa dds dvs) : ∀ σ H Q, teOf K B (dMeth C m sp dds da as) σ H Q → tMeth C m (lift K sp) dvs E (teOf K B da) (taOf K B as) σ H Q := fun σ H Q ⟨F, pa, t, env, P, W, h, k⟩ =>
  ⟨F, pa, t, env, _, W, h, fun v x F1 pa1 t1 H1 g1 W1 r1 q1 => by
    cases x with
    | ins C' ns l =>
      obtain ⟨rfl, hn, q1⟩ := q1
      have r1' := r1
      unfold RelD at r1'
      obtain ⟨a, dx, us, rfl, e1, _, _⟩ := r1'
      refine ⟨a, dx, _, rfl, W1.sub _ _ e1, zip_none hn, F1, pa1, t1, env, _, W1, q1, fun vs xs F2 pa2 t2 H2 g2 W2 r2 q2 => ⟨F2, pa2, t2, .ins C' ns l :: (xs ++ dds), P, W2.call, RelL.cons (RelD.mono g2 _ _ r1) (r2.append (hd _ _)), q2, fun v d F' pa' t' H' W' r' q' => ?_⟩⟩
      obtain ⟨g, W3⟩ := W2.after W'
      exact k v d F' pa' t' H' ((g1.trans g2).trans g) W3 r' q'
    | _ => exact q1.elim⟩
theorem q_meth {pl : Sem Bool} (he : QE X B o da) (c : Cls X.K C) (hm : Meth X.K C m f) (F : FnOk X.prog X.w X.K X.mg X.base CX k f fd ps (lift X.K sp)) (hr : Room k X.A) (hb : Binds X.K fd ps ds) (hd : Vals dvs ds) (hD : ∀ F pa, RelL X.K F pa dds dvs) (hx : Passes CX X E) (ha : QA X B (e :: es) as)
    (hst : starEach (e :: es) X.env = (false, eval e X.env) :: starEach es X.env := by rfl) (hpl : (backTo pos (starEach es X.env)).any (·.1) = false := by rfl)
    (ht : eval (.Call (.Attribute o m apos) (e :: es) [] pos) X.env = (do
      let ov ← eval o X.env
      standAt apos.atName
      let (f, first) ← holding [ov] (getMethod ov m pl)
      callWith pos f first (backTo pos (starEach (e :: es) X.env)) (backToKw pos (keywordEach [] X.env))) := by rfl) :
    QE X B (.Call (.Attribute o m apos) (e :: es) [] pos) (dMeth C m sp dds da as) := PE.imp (pe_meth he c hm F hr hb hd hx ha hst hpl ht) (ev_meth hD)
theorem q_meth0 {pl : Sem Bool} (he : QE X B o da) (c : Cls X.K C) (hm : Meth X.K C m f) (F : FnOk X.prog X.w X.K X.mg X.base CX k f fd ps (lift X.K sp)) (hr : Room k X.A) (hb : Binds X.K fd ps ds) (hd : Vals dvs ds) (hD : ∀ F pa, RelL X.K F pa dds dvs) (hx : Passes CX X E)
    (ht : eval (.Call (.Attribute o m apos) [] [] pos) X.env = (do
      let ov ← eval o X.env
      standAt apos.atName
      let (f, first) ← holding [ov] (getMethod ov m pl)
      callWith pos f first (backTo pos (starEach [] X.env)) (backToKw pos (keywordEach [] X.env))) := by rfl) :
    QE X B (.Call (.Attribute o m apos) [] [] pos) (dMeth C m sp dds da dNil) := PE.imp (pe_meth0 he c hm F hr hb hd hx ht) fun σ H Q h => by
  obtain ⟨F, pa, t, env, P, W, h1, h2⟩ := ev_meth (E := E) hD σ H Q h
  exact ⟨F, pa, t, env, _, W, h1, fun v d F' pa' t' H' g W' r q => by
    obtain ⟨a, dx, fs, e1, e2, e3, z⟩ := h2 v d F' pa' t' H' g W' r q
    refine ⟨a, dx, fs, e1, e2, e3, ?_⟩
    obtain ⟨F2, pa2, t2, env2, P2, W2, q2, k2⟩ := z
    exact k2 [] [] F2 pa2 t2 H' (Gr.refl _ _) W2 RelL.nil q2⟩
end
end Q
/-! QH5 -/
namespace Q
open PySem L2 PyProof.Rows
section
variable {X : Cx} {B : Bs} {K : PySem.W.Frag} {a b c e : Expr} {es : List Expr} {pos : Pos} {da db dc : DE} {as : DA} {g : DG} {gs : DGs} {st : Stmt} {rest sts sts2 : List Stmt} {s1 s2 : DS} {dt : DT}
/-! ### targets -/
variable {vs : List Nat}
theorem wipe_set {σ : L2.St} {i : Nat} {x : Option V} : ∀ {vs : List Nat}, i ∈ vs → wipe (σ.set i x) vs = wipe σ vs
  | [], h => by simp at h
  | j :: r, h => by
    show (wipe (σ.set i x) r).set j none = (wipe σ r).set j none
    by_cases hr : i ∈ r
    · rw [wipe_set hr]
    · have hj : i = j := by
        rcases List.mem_cons.mp h with z | z
        · exact z
        · exact absurd z hr
      subst hj
      apply List.ext_getElem?
      intro k
      by_cases hk : i = k
      · subst hk
        rw [List.getElem?_set_self', List.getElem?_set_self', wipe_out hr, wipe_out hr, List.getElem?_set_self']
        cases σ[i]? <;> rfl
      · rw [List.getElem?_set_ne hk, List.getElem?_set_ne hk]
        exact wipe_setk hk
  where
  wipe_setk {σ : L2.St} {i k : Nat} {x : Option V} (hk : i ≠ k) : ∀ {vs : List Nat}, (wipe (σ.set i x) vs)[k]? = (wipe σ vs)[k]?
    | [] => by show (σ.set i x)[k]? = σ[k]?; rw [List.getElem?_set_ne hk]
    | j :: r => by
      show ((wipe (σ.set i x) r).set j none)[k]? = ((wipe σ r).set j none)[k]?
      by_cases hj : j = k
      · subst hj
        rw [List.getElem?_set_self', List.getElem?_set_self', wipe_setk hk]
      · rw [List.getElem?_set_ne hj, List.getElem?_set_ne hj]
        exact wipe_setk hk
theorem q_gname {i : Nat} {x : Str} {pos : Pos} (h : PG X (.Name x pos) (L2.gName i)) (hi : i ∈ vs) : QG X B vs (.Name x pos) (Q.gName i) := PG.imp h fun v σ H Q ⟨F, pa, t, env, d, P, C, r, hd, k⟩ =>
  k F pa t _ _ H (Gr.refl _ _) (C.setV i r) (wipe_set hi) hd
theorem q_gnil : QGs X B vs [] gNil := PGs.imp pgs_nil fun v σ H Q ⟨F, pa, t, env, ds, P, C, r, hd, k⟩ => by
  cases ds with
  | nil => exact ⟨r.inv0, k F pa t env σ H (Gr.refl _ _) C rfl hd⟩
  | cons => exact hd.elim
theorem q_gcons (h1 : QG X B vs e g) (h2 : QGs X B vs es gs) (hs : (assignEach (e :: es) X.env).map (·.2) = assign e X.env :: (assignEach es X.env).map (·.2) := by rfl) : QGs X B vs (e :: es) (gCons g gs) := PGs.imp (pgs_cons h1 h2 hs) fun v σ H Q ⟨F, pa, t, env, ds, P, C, r, hd, k⟩ => by
  cases ds with
  | nil => exact hd.elim
  | cons d ds =>
    obtain ⟨v, vr, rfl, r1, r2⟩ := r.inv
    exact ⟨v, vr, rfl, F, pa, t, env, d, _, C, r1, hd, fun F' pa' t' env' σ' H' g' C' w1 q => ⟨F', pa', t', env', ds, P, C', RelL.mono g' ds vr r2, q, fun F2 pa2 t2 env2 σ2 H2 g2 C2 w2 q2 => k F2 pa2 t2 env2 σ2 H2 (g'.trans g2) C2 (w2.trans w1) q2⟩⟩
theorem q_gtup {k : Nat} {n : Nat} (hc : X.calm = true) (h : QGs X B vs es gs) (hn : (assignEach es X.env).length = n := by rfl) (hst : (assignEach es X.env).findIdx? (·.1) = none := by rfl) : QG X B vs (.Tuple es k pos) (Q.gTup n gs) := PG.imp (pg_tup hc h hn hst) fun v σ H Q ⟨F, pa, t, env, d, P, C, r, hd, k⟩ => by
  cases d with
  | tup l =>
    obtain ⟨hl, hd⟩ := hd
    have r' := r
    unfold RelD at r'
    obtain ⟨a, us, rfl, e, q⟩ := r'
    exact ⟨a, us, rfl, SqT.of (C.sub _ _ e), by rw [q.len]; exact hl, F, pa, t, env, l, P, C, q, hd, k⟩
  | _ => exact hd.elim
/-! ### statements -/
theorem q_nil : QSs X B [] dNext := PSs.imp pss_nil fun D σ H ⟨F, pa, t, env, DD, C, h, R⟩ => R.nx F pa t env σ H (Gr.refl _ _) C h
theorem q_cons (h1 : QS X B st s1) (h2 : QSs X B rest s2) : QSs X B (st :: rest) (dSeq s1 s2) := PSs.imp (pss_cons h1 h2) fun D σ H ⟨F, pa, t, env, DD, C, h, R⟩ =>
  ⟨F, pa, t, env, _, C, h, ⟨fun F pa t env σ H g C q => ⟨F, pa, t, env, DD, C, q, R.mono g⟩, R.rt, R.bk, R.ct⟩⟩
/-- the name's own list is frozen ahead of the rest -/
theorem q_frz {i : Nat} (hB : B.Top) (h2 : QSs X B rest s2) : QSs X B rest (dSeq (dFrz i) s2) := PSs.imp h2 fun D σ H ⟨F, pa, t, env, DD, C, h, R⟩ => by
  have h : (match env[i]? with | some (.own d) => s2 DD (env.set i (.val d)) t | _ => s2 DD env t) := h
  cases q : env[i]? with
  | none => rw [q] at h; exact ⟨F, pa, t, env, DD, C, h, R⟩
  | some z =>
    rw [q] at h
    cases z with
    | own d =>
      obtain ⟨F', g, C'⟩ := C.frzO hB q
      exact ⟨F', pa, t, _, DD, C', h, R.mono g⟩
    | val d => exact ⟨F, pa, t, env, DD, C, h, R⟩
    | no => exact ⟨F, pa, t, env, DD, C, h, R⟩
theorem ret0 {F : Hp} {pa : Option Addr} {t : Ts} {H : Hp} {d : D} {v : V} (hm : B.m = false) (r : RelD K F pa d v) : RetRel K B F pa t H d v := by
  unfold RetRel; rw [hm]; exact r
theorem q_ret (hm : B.m = false) (h : QE X B e da) : QS X B (.Return (some e) pos) (dRet da) := PS.imp (ps_ret h) fun D σ H ⟨F, pa, t, env, DD, C, h, R⟩ =>
  ⟨F, pa, t, env, _, C, h, fun v d F' pa' t' H' g C' r q => R.rt v d F' pa' t' env σ H' g C' (ret0 hm r) q⟩
theorem q_retNew (hm : B.m = true) (h : QN X B e da) : QS X B (.Return (some e) pos) (dRet da) := PS.imp (ps_ret h) fun D σ H ⟨F, pa, t, env, DD, C, h, R⟩ =>
  ⟨F, pa, t, env, _, C, h, fun p hh d F' pa' t' H' g C' n e r q => R.rt _ d F' pa' t' env σ H' g C' (by unfold RetRel; rw [hm]; exact .inr ⟨p, hh, rfl, n.f, n.b, n.a, n.o, e, r⟩) q⟩
theorem ev_asg {D : Ends} {σ : L2.St} {H : Hp} (h : tsOf K B (dAsg da g) D σ H) : tAsg (teOf K B da) (tgOf K B vs g) D σ H := by
  obtain ⟨F, pa, t, env, DD, C, h, R⟩ := h
  exact ⟨F, pa, t, env, _, C, h, fun v d F' pa' t' H' g' C' r q => ⟨F', pa', t', env, d, _, C', r, q, fun F2 pa2 t2 env2 σ2 H2 g2 C2 _ q2 => R.nx F2 pa2 t2 env2 σ2 H2 (g'.trans g2) C2 q2⟩⟩
theorem q_asg {tg : Expr} (he : QE X B e da) (hg : QG X B vs tg g) (hs : swapsWithSole [tg] e pos.line X.env = pure false := by rfl) (hw : swappedStores [tg] e X.env = pure none := by rfl)
    (h1 : (assignEach [tg] X.env).map (·.2) = [assign tg X.env] := by rfl) : QS X B (.Assign [tg] e pos) (dAsg da g) := PS.imp (ps_asg he hg hs hw h1) fun D σ H h => ev_asg h
theorem q_set {i : Nat} {x : Str} {pos' : Pos} (hN : X.N.Nodup) (hi : X.N[i]? = some x) (hx : Loc X.env.scope x) (he : QE X B e da) (hs : swapsWith e (some (.Name x pos')) pos.line X.env = pure false := by rfl) (hf : X.fn x = true ∨ X.env.scope.names.lookup x = some .local := by first | exact .inl rfl | exact .inr rfl | assumption) :
    QS X B (.Assign [.Name x pos'] e pos) (dAsg da (Q.gName i)) := PS.imp (ps_set hN hi hx he hs hf) fun D σ H ⟨F, pa, t, env, DD, C, h, R⟩ =>
  ⟨F, pa, t, env, _, C, h, fun v d F' pa' t' H' g' C' r q => R.nx F' pa' t' _ _ H' g' (C'.setV i r) q⟩
/-- a new list, the name's own -/
theorem q_setN {i : Nat} {x : Str} {pos' : Pos} (hN : X.N.Nodup) (hi : X.N[i]? = some x) (hx : Loc X.env.scope x) (he : QN X B e da) (hs : swapsWith e (some (.Name x pos')) pos.line X.env = pure false := by rfl) (hf : X.fn x = true ∨ X.env.scope.names.lookup x = some .local := by first | exact .inl rfl | exact .inr rfl | assumption) :
    QS X B (.Assign [.Name x pos'] e pos) (dAsgN i da) := PS.imp (ps_set hN hi hx he hs hf) fun D σ H ⟨F, pa, t, env, DD, C, h, R⟩ =>
  ⟨F, pa, t, env, _, C, h, fun p hh d F' pa' t' H' g' C' n e r q => R.nx F' pa' t' _ _ H' g' (C'.setN i n e r) q⟩
theorem q_par {i j : Nat} {x y : Str} {px py pt : Pos} {kt k2 pt2} (hc : X.calm = true) (hN : X.N.Nodup) (hi : X.N[i]? = some x) (hj : X.N[j]? = some y) (hij : i ≠ j)
    (hx : X.env.scope.names.lookup x = some .local) (hy : X.env.scope.names.lookup y = some .local) (ha : QA X B [a, b] as)
    (hw : swappedStores [.Tuple [.Name x px, .Name y py] kt pt] (.Tuple [a, b] k2 pt2) X.env = pure (some [x, y]))
    (hs : swapsWithSole [.Tuple [.Name x px, .Name y py] kt pt] (.Tuple [a, b] k2 pt2) pos.line X.env = pure false := by rfl) :
    QS X B (.Assign [.Tuple [.Name x px, .Name y py] kt pt] (.Tuple [a, b] k2 pt2) pos) (dPar i j as) := PS.imp (ps_par hc hN hi hj hij hx hy ha hw hs) fun D σ H ⟨F, pa, t, env, DD, C, h, R⟩ =>
  ⟨F, pa, t, env, _, C, h, fun vs ds F' pa' t' H' g' C' r q => by
    match ds, q with
    | [d, e], q =>
      obtain ⟨v, vr, rfl, r1, r2⟩ := r.inv
      obtain ⟨w, wr, rfl, r3, r4⟩ := r2.inv
      obtain rfl := r4.inv0
      exact ⟨v, w, rfl, R.nx F' pa' t' _ _ H' g' ((C'.setV i r1).setV j r3) q⟩⟩
theorem q_par3 {i j l : Nat} {x y z : Str} {px py pz pt : Pos} {kt k2 pt2} (hc : X.calm = true) (hN : X.N.Nodup) (hi : X.N[i]? = some x) (hj : X.N[j]? = some y) (hl : X.N[l]? = some z) (hij : i ≠ j) (hil : i ≠ l) (hjl : j ≠ l)
    (hx : X.env.scope.names.lookup x = some .local) (hy : X.env.scope.names.lookup y = some .local) (hz : X.env.scope.names.lookup z = some .local) (ha : QA X B [a, b, c] as)
    (hw : swappedStores [.Tuple [.Name x px, .Name y py, .Name z pz] kt pt] (.Tuple [a, b, c] k2 pt2) X.env = pure (some [x, y, z]))
    (hs : swapsWithSole [.Tuple [.Name x px, .Name y py, .Name z pz] kt pt] (.Tuple [a, b, c] k2 pt2) pos.line X.env = pure false := by rfl) :
    QS X B (.Assign [.Tuple [.Name x px, .Name y py, .Name z pz] kt pt] (.Tuple [a, b, c] k2 pt2) pos) (dPar3 i j l as) := PS.imp (ps_par3 hc hN hi hj hl hij hil hjl hx hy hz ha hw hs) fun D σ H ⟨F, pa, t, env, DD, C, h, R⟩ =>
  ⟨F, pa, t, env, _, C, h, fun vs ds F' pa' t' H' g' C' r q => by
    match ds, q with
    | [d, e, f], q =>
      obtain ⟨v, vr, rfl, r1, r2⟩ := r.inv
      obtain ⟨w, wr, rfl, r3, r4⟩ := r2.inv
      obtain ⟨u, ur, rfl, r5, r6⟩ := r4.inv
      obtain rfl := r6.inv0
      exact ⟨v, w, u, rfl, R.nx F' pa' t' _ _ H' g' (((C'.setV i r1).setV j r3).setV l r5) q⟩⟩
theorem q_aug {i : Nat} {x : Str} {op : Operator} {pos' : Pos} {r : R2} {o : DOp} (hN : X.N.Nodup) (hi : X.N[i]? = some x) (hx : Loc X.env.scope x) (he : QV X B e da) (ho : OpR X (inplaceOp op) r) (hr : ROp X.K r o)
    (hf : X.fn x = true ∨ X.env.scope.names.lookup x = some .local := by first | exact .inl rfl | exact .inr rfl | assumption) : QS X B (.AugAssign (.Name x pos') op e pos) (dAug i o da) :=
  PS.imp (ps_aug (ti := r) hN hi hx he (fun pins s σ H x y v u Q I r1 r2 h => ho pins s σ H x y v u Q I r1 r2 h) hf) fun D σ H ⟨F, pa, t, env, DD, C, h, R⟩ => by
    have h : (match env[i]? with | some (.val x) => da env t (fun y t1 => o x y fun z => DD.nx (env.set i (.val z)) t1) | _ => False) := h
    cases q : env[i]? with
    | none => rw [q] at h; exact h.elim
    | some z =>
      rw [q] at h
      cases z with
      | val d =>
        obtain ⟨v, h1, h2⟩ := C.val i d q
        exact ⟨v, h1, F, pa, t, env, _, C, h, fun w y F' pa' t' H' g' C' r1 q1 => hr B F' pa' t' env σ H' d y v w _ _ C' (.inl (RelD.mono g' d v h2)) r1 q1 fun u z F2 H2 g2 C2 r2 q2 => R.nx F2 pa' t' _ _ H2 (g'.trans g2) (C2.setV i r2) q2⟩
      | no => exact h.elim
      | own d => exact h.elim
theorem q_if {l r : List Stmt} (hc : QT X B c dt) (ha : QSs X B l s1) (hb : QSs X B r s2) : QS X B (.If c l r pos) (dIf dt s1 s2) := PS.imp (ps_if hc ha hb) fun D σ H ⟨F, pa, t, env, DD, C, h, R⟩ =>
  ⟨F, pa, t, env, _, C, h, fun k F' pa' t' H' g C' q => by
    cases k with
    | true => rw [if_pos rfl]; exact ⟨F', pa', t', env, DD, C', q, R.mono g⟩
    | false => rw [if_neg Bool.false_ne_true]; exact ⟨F', pa', t', env, DD, C', q, R.mono g⟩⟩
/-! ### lists of a name's own, written -/
theorem own_lst {F : Hp} {pa : Option Addr} {t : Ts} {env : En} {σ : L2.St} {H : Hp} {i : Nat} {l : List D} (C : Cf K B F pa t env σ H) (h : env[i]? = some (Sl.own (.lst l))) : ∃ a vs, σ[i]? = some (some (V.ref a)) ∧ H a = some (.lst vs) ∧ RelL K F pa l vs := by
  obtain ⟨a, u, h1, h2, h3, _⟩ := C.own i _ h
  obtain ⟨vs, rfl, q⟩ := h3
  exact ⟨a, vs, h1, h2, q⟩
theorem get_own {env : En} {i : Nat} {p : List D → Prop} (h : match env[i]? with | some (.own (.lst l)) => p l | _ => False) : ∃ l, env[i]? = some (Sl.own (.lst l)) ∧ p l := by
  split at h
  · rename_i l e; exact ⟨l, e, h⟩
  · exact h.elim
theorem q_app {i : Nat} (hp : PE X e (tBM X.K "list" rAppend (tVar i) (tCons (teOf X.K B da) tNil))) (hs : swapsWith e none pos.line X.env = pure false := by rfl) : QS X B (.Expr e pos) (dApp i da) :=
  PS.imp (ps_expr hp hs) fun De σ H ⟨F, pa, t, env, DD, C, h, R⟩ => by
    obtain ⟨l, hi, h⟩ := get_own h
    obtain ⟨a, vs, s1, e1, r1⟩ := own_lst C hi
    refine ⟨.ref a, s1, Or.inl ⟨rfl, vs, SqL.of e1⟩, F, pa, t, env, _, C, h, fun w y F' pa' t' H' g' C' r2 q2 => ?_⟩
    obtain ⟨hl, q2⟩ := q2
    obtain ⟨a', us, s2, e2, r3⟩ := own_lst C' hi
    rw [s1] at s2; cases s2
    refine ⟨a, us, w, rfl, rfl, e2, by rw [r3.len]; exact zlt hl, ?_⟩
    exact R.nx F' pa' t' _ σ _ g' (C'.wrO (d' := .lst (l ++ [y])) hi s1 ⟨_, rfl, r3.append (.cons r2 .nil)⟩) q2
theorem ixN_eq (n : Nat) (i : Int) : L2.ixN n i = Q.ixN n i := rfl
theorem q_seti {i : Nat} {dk : DE} {tg : Expr} (hp : PS X (.Assign [tg] e pos) (tAsg (teOf X.K B da) (gSub (tVar i) (tvOf X.K B dk) rSetL))) : QS X B (.Assign [tg] e pos) (dSet i dk da) :=
  PS.imp hp fun De σ H ⟨F, pa, t, env, DD, C, h, R⟩ => ⟨F, pa, t, env, _, C, h, fun w y F' pa' t' H' g' C' r2 q2 => by
    obtain ⟨l, hi, q2⟩ := get_own q2
    obtain ⟨a, vs, s1, e1, r1⟩ := own_lst C' hi
    refine ⟨.ref a, s1, F', pa', t', env, _, C', q2, fun u z F2 pa2 t2 H2 g2 C2 r3 q3 => ?_⟩
    cases z with
    | int m =>
      obtain ⟨j, hj, q3⟩ := q3
      obtain ⟨a', us, s2, e2, r4⟩ := own_lst C2 hi
      rw [s1] at s2; cases s2
      refine ⟨a, us, m, j, rfl, r3.int C2, e2, by rw [ixN_eq, r4.len]; exact hj, ?_⟩
      exact R.nx F2 pa2 t2 _ σ _ (g'.trans g2) (C2.wrO (d' := .lst (l.set j y)) hi s1 ⟨_, rfl, r4.set j (RelD.mono g2 y w r2)⟩) q3
    | _ => exact q3.elim⟩
/-! ### loops -/
theorem q_while {body : List Stmt} (hp : PassesOwn (model X.prog X.w) X.A X.env X.xe) (hc : QT X B c dt) (hb : QSs X B body s1) : QS X B (.While c body [] pos) (dWhile dt s1) := PS.imp (ps_while hp hc hb) fun De σ H ⟨F, pa, t, env, DD, C, h, R⟩ => by
  obtain ⟨Inv, mu, h0, hs⟩ := h
  refine ⟨fun m σ H => ∃ F1 pa1 t env, Gr F pa F1 pa1 ∧ Cf X.K B F1 pa1 t env σ H ∧ Inv env t ∧ m = mu env t, ⟨mu env t, F, pa, t, env, Gr.refl _ _, C, h0, rfl⟩, ?_⟩
  rintro m σ1 H1 ⟨F1, pa1, t1, env1, g1, C1, h1, rfl⟩
  refine ⟨F1, pa1, t1, env1, _, C1, hs env1 t1 h1, fun k F2 pa2 t2 H2 g2 C2 q2 => ?_⟩
  cases k with
  | true =>
    rw [if_pos rfl]
    have nn : ∀ F3 pa3 t env σ' H', Gr F2 pa2 F3 pa3 → Cf X.K B F3 pa3 t env σ' H' → (Inv env t ∧ mu env t < mu env1 t1) → ∃ m', m' < mu env1 t1 ∧ ∃ F3 pa3 t env, Gr F pa F3 pa3 ∧ Cf X.K B F3 pa3 t env σ' H' ∧ Inv env t ∧ m' = mu env t := fun F3 pa3 t env σ' H' g3 C' q => ⟨mu env t, q.2, F3, pa3, t, env, (g1.trans g2).trans g3, C', q.1, rfl⟩
    have R2 := R.mono (g1.trans g2)
    refine ⟨fun σ' H' => ∃ m', m' < mu env1 t1 ∧ ∃ F3 pa3 t env, Gr F pa F3 pa3 ∧ Cf X.K B F3 pa3 t env σ' H' ∧ Inv env t ∧ m' = mu env t, fun σ' H' z => z, F2, pa2, t2, env1, _, C2, q2, ⟨nn, R2.rt, R2.nx, nn⟩⟩
  | false =>
    rw [if_neg Bool.false_ne_true]
    exact R.nx F2 pa2 t2 env1 σ1 H2 (g1.trans g2) C2 q2
/-- what is walked -/
def ItOk (K : PySem.W.Frag) (J : It) (items : List D) (F0 : Hp) (pa0 : Option Addr) : Prop := ∀ (B : Bs) F pa t env σ H (i : Nat), Gr F0 pa0 F pa → Cf K B F pa t env σ H →
  (items.length = i → J.stop i H) ∧ ∀ d, items[i]? = some d → J.go i H ∧ ∀ x H', J.yld i H x H' → Gf H H' ∧ ∃ F', (∀ a o, F' a = some o → (∃ o', F a = some o') ∨ H a = none) ∧ Gr F pa F' pa ∧ Cf K B F' pa t env σ H' ∧ RelD K F' pa d x
theorem ItOk.mono {J : It} {items : List D} {F0 F1 : Hp} {p0 p1 : Option Addr} (h : ItOk K J items F0 p0) (g : Gr F0 p0 F1 p1) : ItOk K J items F1 p1 := fun B F pa t env σ H i g' C => h B F pa t env σ H i (g.trans g') C
def tiOf (K : PySem.W.Frag) (B : Bs) (di : DI) : TI := fun σ H R => ∃ F pa t env P, Cf K B F pa t env σ H ∧ di env t P ∧
  ∀ J items F' pa' t' H', Gr F pa F' pa' → Cf K B F' pa' t' env σ H' → ItOk K J items F' pa' → P items t' → R J H'
abbrev QI (X : Cx) (B : Bs) (tg e : Expr) (di : DI) : Prop := PI X tg e (tiOf X.K B di)
theorem PI.imp {tg e : Expr} {w w' : TI} (h : PI X tg e w) (i : ∀ σ H R, w' σ H R → w σ H R) : PI X tg e w' := ⟨fun pins s σ H R I q => h.run pins s σ H R I (i σ H R q)⟩
theorem it_list {F0 : Hp} {pa0 : Option Addr} {a : Addr} {l : List D} {vs : List V} (e : SqL K F0 a vs) (r : RelL K F0 pa0 l vs) : ItOk K (Itl K a) l F0 pa0 := fun B F pa t env σ H i g C => by
  have eH : SqL K H a vs := sq_mono C.sub (sq_mono g.f e)
  refine ⟨fun hi => ⟨vs, eH, by rw [r.len]; exact Nat.le_of_eq hi⟩, fun d hd => ?_⟩
  obtain ⟨v, hv, rv⟩ := r.get hd
  refine ⟨⟨vs, v, eH, hv⟩, fun x H' y => ?_⟩
  obtain ⟨rfl, y⟩ := y
  have y := y vs eH
  rw [hv] at y; cases y
  exact ⟨fun _ _ z => z, F, fun a o e => .inl ⟨o, e⟩, Gr.refl _ _, C, RelD.mono g d v rv⟩
theorem it_tup {F0 : Hp} {pa0 : Option Addr} {a : Addr} {l : List D} {vs : List V} (e : F0 a = some (.tup vs)) (r : RelL K F0 pa0 l vs) : ItOk K (Itt K a) l F0 pa0 := fun B F pa t env σ H i g C => by
  have eH : SqT K H a vs := SqT.of (C.sub _ _ (g.f _ _ e))
  refine ⟨fun hi => ⟨vs, eH, by rw [r.len]; exact Nat.le_of_eq hi⟩, fun d hd => ?_⟩
  obtain ⟨v, hv, rv⟩ := r.get hd
  refine ⟨⟨vs, v, eH, hv⟩, fun x H' y => ?_⟩
  obtain ⟨rfl, y⟩ := y
  have y := y vs eH
  rw [hv] at y; cases y
  exact ⟨fun _ _ z => z, F, fun a o e => .inl ⟨o, e⟩, Gr.refl _ _, C, RelD.mono g d v rv⟩
theorem it_rng {F0 : Hp} {pa0 : Option Addr} (lo : Int) (n : Nat) : ItOk K (Itr lo n) (rng lo n) F0 pa0 := fun B F pa t env σ H i g C => by
  refine ⟨fun hi => by rw [rng_len] at hi; exact Nat.le_of_eq hi, fun d hd => ?_⟩
  obtain ⟨h1, rfl⟩ := rng_get hd
  refine ⟨h1, fun x H' y => ?_⟩
  obtain ⟨rfl, rfl⟩ := y
  exact ⟨fun _ _ z => z, F, fun a o e => .inl ⟨o, e⟩, Gr.refl _ _, C, rD_int _⟩
theorem q_irng1 {tg : Expr} {p pos : Pos} (hg : Gl X "range") (hm : X.mg "range" = none) (ha : QV X B a da) (hs : starEach [a] X.env = [(false, eval a X.env)] := by rfl) (hs' : starEach (a :: []) X.env = (false, eval a X.env) :: starEach [] X.env := by rfl) : QI X B tg (.Call (.Name "range" p) [a] [] pos) (iRng1 da) := PI.imp (pi_range1 hg hm (pa_cons ha pa_nil hs') hs) fun σ H R ⟨F, pa, t, env, P, C, h, k⟩ =>
  ⟨F, pa, t, env, _, C, h, fun v d F' pa' t' H' g C' r q => by
    cases d with
    | int n =>
      obtain ⟨⟨h1, h2⟩, q⟩ := q
      exact ⟨n, by rw [r.int C'], by omega, by omega, k _ _ F' pa' t' H' g C' (it_rng 0 n.toNat) q⟩
    | _ => exact q.elim⟩
theorem q_for {tg iter : Expr} {body : List Stmt} {di : DI} (hp : PassesOwn (model X.prog X.w) X.A X.env X.xe) (hc : X.calm = true) (hi : QI X B tg iter di) (hg : QG X B vs tg g) (hb : QSs X B body s1) (hs : ∀ x, foldedSetIterable iter X.env x = pure x := by intro _; rfl) : QS X B (.For tg iter body [] pos) (dFor di g s1) :=
  PS.imp (ps_for hp hc hi hg hb hs) fun De σ H ⟨F, pa, t, env, DD, C, h, R⟩ => ⟨F, pa, t, env, _, C, h, fun J items F1 pa1 t1 H1 g1 C1 iok q => by
    obtain ⟨Inv, h0, hstep, hd⟩ := q
    refine ⟨fun i m σ H => m = items.length - i ∧ i ≤ items.length ∧ ∃ F pa t env, Gr F1 pa1 F pa ∧ Cf X.K B F pa t env σ H ∧ Inv i env t, ⟨_, rfl, Nat.zero_le _, F1, pa1, t1, env, Gr.refl _ _, C1, h0⟩, ?_⟩
    rintro i m σ2 H2 ⟨rfl, hi, F2, pa2, t2, env2, g2, C2, q2⟩
    have io := iok B F2 pa2 t2 env2 σ2 H2 i g2 C2
    by_cases hlt : i < items.length
    · have hx : items[i]? = some items[i] := by simp [hlt]
      obtain ⟨go, yl⟩ := io.2 _ hx
      refine .inr ⟨go, fun σ' H' => ∃ m', m' < items.length - i ∧ (m' = items.length - (i + 1) ∧ i + 1 ≤ items.length ∧ ∃ F pa t env, Gr F1 pa1 F pa ∧ Cf X.K B F pa t env σ' H' ∧ Inv (i + 1) env t), fun σ' H' z => z, fun x H' y => ?_⟩
      obtain ⟨_, F3, _, g3, C3, r3⟩ := yl x H' y
      refine ⟨F3, pa2, t2, env2, items[i], _, C3, r3, hstep i _ env2 t2 hx q2, fun F4 pa4 t4 env4 σ4 H4 g4 C4 _ q4 => ?_⟩
      have g14 := (g2.trans g3).trans g4
      have nn : ∀ F pa t env σ' H', Gr F4 pa4 F pa → Cf X.K B F pa t env σ' H' → Inv (i + 1) env t → ∃ m', m' < items.length - i ∧ (m' = items.length - (i + 1) ∧ i + 1 ≤ items.length ∧ ∃ F pa t env, Gr F1 pa1 F pa ∧ Cf X.K B F pa t env σ' H' ∧ Inv (i + 1) env t) := fun F pa t env σ' H' g C' q => ⟨items.length - (i + 1), by omega, rfl, hlt, F, pa, t, env, g14.trans g, C', q⟩
      have R4 := R.mono (g1.trans g14)
      exact ⟨F4, pa4, t4, env4, _, C4, q4, ⟨nn, R4.rt, R4.nx, nn⟩⟩
    · have e : i = items.length := by omega
      subst e
      exact .inl ⟨io.1 rfl, R.nx F2 pa2 t2 env2 σ2 H2 (g1.trans g2) C2 (hd env2 t2 q2)⟩⟩
end
end Q
/-! QH6 -/
namespace Q
open PySem L2 PyProof.Rows
section
variable {X : Cx} {B : Bs} {K : PySem.W.Frag} {a b c e : Expr} {es : List Expr} {pos : Pos} {da db dc : DE} {as : DA} {g : DG} {gs : DGs} {dt : DT}
/-! ### comprehensions -/
theorem wipeE_length (env : En) : ∀ vs : List Nat, (wipeE env vs).length = env.length
  | [] => rfl
  | i :: r => by simp [wipeE, wipeE_length env r]
theorem wipeE_some {env : En} {i : Nat} {x : Sl} (hx : x ≠ .no) : ∀ {vs : List Nat}, (wipeE env vs)[i]? = some x → env[i]? = some x ∧ i ∉ vs
  | [], h => ⟨h, by simp⟩
  | j :: r, h => by
    rcases get_set (show ((wipeE env r).set j .no)[i]? = some x from h) with ⟨_, z⟩ | ⟨ne, z⟩
    · exact absurd z hx
    · obtain ⟨h1, h2⟩ := wipeE_some hx z
      exact ⟨h1, by simp [h2, Ne.symm ne]⟩
theorem wipeE_out {env : En} {i : Nat} : ∀ {vs : List Nat}, i ∉ vs → (wipeE env vs)[i]? = env[i]?
  | [], _ => rfl
  | j :: r, h => by
    simp only [List.mem_cons, not_or] at h
    show ((wipeE env r).set j .no)[i]? = _
    rw [List.getElem?_set_ne (Ne.symm h.1)]
    exact wipeE_out h.2
/-- the addresses of the names' own objects -/
def ownA (env : En) (σ : L2.St) : List Addr := (env.zip σ).filterMap fun p => match p with
  | (.own _, some (.ref a)) => some a
  | _ => none
theorem mem_ownA {env : En} {σ : L2.St} {a : Addr} : a ∈ ownA env σ ↔ ∃ (i : Nat) (d : D), env[i]? = some (Sl.own d) ∧ σ[i]? = some (some (V.ref a)) := by
  unfold ownA
  rw [List.mem_filterMap]
  constructor
  · rintro ⟨⟨s, v⟩, hm, h⟩
    obtain ⟨i, hi⟩ := List.mem_iff_getElem?.mp hm
    rw [List.getElem?_zip_eq_some] at hi
    cases s with
    | own d =>
      cases v with
      | none => cases h
      | some v =>
        cases v with
        | ref b => cases h; exact ⟨i, d, hi.1, hi.2⟩
        | _ => cases h
    | _ => cases h
  · rintro ⟨i, d, h1, h2⟩
    exact ⟨(.own d, some (.ref a)), List.mem_iff_getElem?.mpr ⟨i, List.getElem?_zip_eq_some.mpr ⟨h1, h2⟩⟩, rfl⟩
def Bk (F : Hp) (pa : Option Addr) (t : Ts) (env : En) (σ : L2.St) (H : Hp) : Bs := ⟨F, H, pa.toList ++ ownA env σ, pa, false, [], t.dom⟩
theorem Cf.block {F : Hp} {pa : Option Addr} {t : Ts} {env : En} {σ : L2.St} {H : Hp} (C : Cf K B F pa t env σ H) (vs : List Nat) : Cf K (Bk F pa t (wipeE env vs) (wipe σ vs) H) F pa t (wipeE env vs) (wipe σ vs) H := by
  have wo : ∀ {i : Nat}, i ∉ vs → (wipe σ vs)[i]? = σ[i]? := fun h => wipe_out h
  refine ⟨by rw [wipeE_length, wipe_length, C.len], C.sub, fun _ _ e => e, fun _ _ e _ _ => e, fun a o e => .inl ⟨o, e⟩, fun a ha => ?_, fun i d e => ?_, fun i d e => ?_, fun i j d e a q1 q2 s1 s2 => ?_, fun a e => ?_, rfl, TabF.nil, C.ntb, fun a d e => by
    obtain ⟨h1, h2, h3, _, h5⟩ := C.obs a d e
    exact ⟨h1, h2, h3, .inl ⟨d, e⟩, h5⟩, fun a e => e, fun i d a e s => by
    obtain ⟨h1, hi⟩ := wipeE_some (by simp) e
    rw [wo hi] at s
    exact C.osp i d a h1 s⟩
  · rcases List.mem_append.mp ha with h | h
    · obtain ⟨_, ⟨u, q, _⟩, _⟩ := C.pen a (mem_pa.mp h)
      exact ⟨u, q⟩
    · obtain ⟨i, d, h1, h2⟩ := mem_ownA.mp h
      obtain ⟨h1', hi⟩ := wipeE_some (by simp) h1
      rw [wo hi] at h2
      obtain ⟨a', u, s1, e1, _⟩ := C.own i d h1'
      rw [h2] at s1; cases s1
      exact ⟨u, e1⟩
  · obtain ⟨h1, hi⟩ := wipeE_some (by simp) e
    obtain ⟨v, s1, r⟩ := C.val i d h1
    exact ⟨v, by rw [wo hi]; exact s1, r⟩
  · obtain ⟨h1, hi⟩ := wipeE_some (by simp) e
    obtain ⟨a, u, s1, e1, r, f1, p1, _⟩ := C.own i d h1
    refine ⟨a, u, by rw [wo hi]; exact s1, e1, r, f1, p1, .inl (List.mem_append.mpr (.inr (mem_ownA.mpr ⟨i, d, e, by rw [wo hi]; exact s1⟩)))⟩
  · obtain ⟨h1, hi⟩ := wipeE_some (by simp) q1
    obtain ⟨h2, hj⟩ := wipeE_some (by simp) q2
    rw [wo hi] at s1
    rw [wo hj] at s2
    exact C.sep i j d e a h1 h2 s1 s2
  · obtain ⟨h1, h2, _⟩ := C.pen a e
    exact ⟨h1, h2, .inl (List.mem_append.mpr (.inl (mem_pa.mpr e)))⟩
theorem Cf.join {F F3 : Hp} {pa pa3 : Option Addr} {t t3 : Ts} {env e' : En} {σ σ2 : L2.St} {H H4 : Hp} {vs : List Nat} (C : Cf K B F pa t env σ H) (C' : Cf K (Bk F pa t (wipeE env vs) (wipe σ vs) H) F3 pa3 t3 e' σ2 H4)
    (he : wipeE e' vs = wipeE env vs) (hs : wipe σ2 vs = wipe σ vs) : Gr F pa F3 pa3 ∧ Cf K B F3 pa3 t3 env σ H4 := by
  have wo : ∀ {i : Nat}, i ∉ vs → (wipe σ vs)[i]? = σ[i]? := fun h => wipe_out h
  have wo2 : ∀ {i : Nat}, i ∉ vs → (wipe σ2 vs)[i]? = σ2[i]? := fun h => wipe_out h
  have g : Gr F pa F3 pa3 := ⟨C'.bas, C'.pnn⟩
  -- what the block may change
  have ex : ∀ a, a ∈ (Bk F pa t (wipeE env vs) (wipe σ vs) H).ex → pa = some a ∨ ∃ (i : Nat) (d : D), i ∉ vs ∧ env[i]? = some (Sl.own d) ∧ σ[i]? = some (some (V.ref a)) := fun a ha => by
    rcases List.mem_append.mp ha with h | h
    · exact .inl (mem_pa.mp h)
    · obtain ⟨i, d, h1, h2⟩ := mem_ownA.mp h
      obtain ⟨h1', hi⟩ := wipeE_some (by simp) h1
      exact .inr ⟨i, d, hi, h1', by rw [← wo hi]; exact h2⟩
  have exB : ∀ a, a ∈ (Bk F pa t (wipeE env vs) (wipe σ vs) H).ex → a ∈ B.ex ∨ B.H a = none := fun a ha => by
    rcases ex a ha with h | ⟨i, d, _, h1, h2⟩
    · exact (C.pen a h).2.2
    · obtain ⟨a', u, s1, _, _, _, _, x⟩ := C.own i d h1
      rw [h2] at s1; cases s1
      exact x
  have kp : ∀ a o, H a = some o → a ∉ (Bk F pa t (wipeE env vs) (wipe σ vs) H).ex → t.obs a = none → H4 a = some o := fun a o e n no => C'.frm a o e n (fun ⟨d, z⟩ => by rw [no] at z; cases z)
  have nf : ∀ a o, H a = some o → F a = none → F3 a = none := fun a o e n => by
    cases q : F3 a with
    | none => rfl
    | some u =>
      rcases C'.new a u q with ⟨u', z⟩ | z
      · have z : F a = some u' := z
        rw [n] at z; cases z
      · have z : H a = none := z
        rw [e] at z; cases z
  refine ⟨g, ⟨C.len, C'.sub, fun a o e => g.f _ _ (C.bas a o e), fun a o e hx ho => ?_, fun a o e => ?_, fun a ha => ?_, fun i d e => ?_, fun i d e => ?_, C.sep, fun a e => ?_, Eq.trans g.p C.pnn, C.tab.keep g.f (fun p hp ps z => nf _ _ z (C.tab p hp).2.1) (fun p hp ps z => kp _ _ z (fun y => by
    rcases ex _ y with y | ⟨i, d, _, h1, h2⟩
    · obtain ⟨_, ⟨u, q, ca, w, _⟩, _⟩ := C.pen p.1 y
      rw [z] at q
      subst w
      cases q
    · obtain ⟨a', u, s1, e1, r1, _⟩ := C.own i d h1
      rw [h2] at s1; cases s1
      rw [z] at e1
      exact r1.ntb ps (Option.some.inj e1).symm) (by
    cases q : t.obs p.1 with
    | none => rfl
    | some d =>
      obtain ⟨_, ⟨u, q2, r⟩, _⟩ := C.obs p.1 d q
      rw [z] at q2
      exact absurd (Option.some.inj q2).symm (r.ntb ps))), C'.ntb, fun a d q => ?_, fun a q => C'.obx a (C.obx a q), fun i d a e s => ?_⟩⟩
  · refine kp a o (C.frm a o e hx ho) (fun z => ?_) ?_
    · rcases exB a z with q | q
      · exact hx q
      · rw [q] at e; cases e
    · cases q : t.obs a with
      | none => rfl
      | some d =>
        rcases (C.obs a d q).2.2.2.1 with z | z
        · exact absurd z ho
        · rw [z] at e; cases e
  · rcases C'.new a o e with ⟨o', q⟩ | q
    · exact C.new a o' q
    · exact .inr (C.fresh q).2.1
  · by_cases hx : a ∈ (Bk F pa t (wipeE env vs) (wipe σ vs) H).ex
    · exact C'.exl a hx
    · obtain ⟨o, q⟩ := C.exl a ha
      cases z : t.obs a with
      | none => exact ⟨o, kp a o q hx z⟩
      | some d =>
        obtain ⟨d', q'⟩ := C'.obx a ⟨d, z⟩
        obtain ⟨_, ⟨u, y, _⟩, _⟩ := C'.obs a d' q'
        exact ⟨u, y⟩
  · obtain ⟨v, h1, h2⟩ := C.val i d e
    exact ⟨v, h1, RelD.mono g d v h2⟩
  · obtain ⟨a, h, h1, h2, h3, h4, h5, h6⟩ := C.own i d e
    by_cases hi : i ∈ vs
    · have nx : a ∉ (Bk F pa t (wipeE env vs) (wipe σ vs) H).ex := fun z => by
        rcases ex a z with q | ⟨j, d', hj, q1, q2⟩
        · exact h5 q
        · have := C.sep i j d d' a e q1 h1 q2
          exact hj (this ▸ hi)
      refine ⟨a, h, h1, kp a h h2 nx (C.osp i d a e h1), RelO1.mono g d h h3, nf a h h2 h4, fun z => ?_, h6⟩
      rcases (C'.pen a z).2.2 with q | q
      · exact nx q
      · have q : H a = none := q
        rw [h2] at q; cases q
    · have e1 : e'[i]? = some (Sl.own d) := by
        rw [← wipeE_out (env := e') hi, he, wipeE_out hi]; exact e
      obtain ⟨a', h', s1, q1, q2, q3, q4, _⟩ := C'.own i d e1
      rw [← wo2 hi, hs, wo hi, h1] at s1
      cases s1
      exact ⟨a, h', h1, q1, q2, q3, q4, h6⟩
  · obtain ⟨h1, h2, h3⟩ := C'.pen a e
    refine ⟨h1, h2, ?_⟩
    rcases h3 with q | q
    · exact exB a q
    · exact .inr (C.fresh q).2.1
  · obtain ⟨h1, h2, h3, h4, h5⟩ := C'.obs a d q
    refine ⟨h1, h2, h3, ?_, h5⟩
    rcases h4 with ⟨d0, z⟩ | z
    · exact (C.obs a d0 z).2.2.2.1
    · exact .inr (C.fresh z).2.1
  · cases q : t3.obs a with
    | none => rfl
    | some d' =>
      rcases (C'.obs a d' q).2.2.2.1 with ⟨d0, z⟩ | z
      · rw [C.osp i d a e s] at z; cases z
      · obtain ⟨a', h, h1, h2, _⟩ := C.own i d e
        rw [s] at h1; cases h1
        have z : H a = none := z
        rw [h2] at z; cases z
/-- what was there and no object is none behind a block -/
theorem noo_of {F : Hp} {pa : Option Addr} {t t' : Ts} {env : En} {σ : L2.St} {H H' : Hp} {D : Addr} {o : HO} {F3 : Hp} {pa3 : Option Addr} {env3 : En} {σ3 : L2.St} (h : t.obs D = none) (C : Cf K (Bk F pa t env σ H) F3 pa3 t' env3 σ3 H') (e : H D = some o) : t'.obs D = none := by
  cases q : t'.obs D with
  | none => rfl
  | some d' =>
    rcases (C.obs D d' q).2.2.2.1 with ⟨d0, z⟩ | z
    · rw [h] at z; cases z
    · have z : H D = none := z
      rw [e] at z; cases z
def teU (K : PySem.W.Frag) (de : DE) : TE := fun σ H Q => ∃ B, teOf K B de σ H Q
def ttU (K : PySem.W.Frag) (dt : DT) : TT := fun σ H Q => ∃ B, ttOf K B dt σ H Q
def tgU (K : PySem.W.Frag) (vs : List Nat) (g : DG) : TG := fun v σ H Q => ∃ B, tgOf K B vs g v σ H Q
theorem pe_U (h : ∀ B, QE X B e da) : PE X e (teU X.K da) := ⟨fun pins s σ H Q I ⟨B, q⟩ => (h B).run pins s σ H Q I q⟩
theorem pg_U {vs : List Nat} (h : ∀ B, QG X B vs e g) : PG X e (tgU X.K vs g) := ⟨fun pins s σ H v u Q I r ⟨B, q⟩ => (h B).run pins s σ H v u Q I r q⟩
theorem pts_U1 (h : ∀ B, QT X B e dt) : PTs X [e] (ttU X.K dt) := pts_one ⟨fun pins s σ H Q I ⟨B, q⟩ => (h B).run pins s σ H Q I q⟩
theorem pts_U0 : PTs X [] (ttU X.K dYes) := ⟨fun pins s σ H Q I ⟨B, q⟩ => pts_nil.run pins s σ H Q I (by
  obtain ⟨F, pa, t, env, P, C, h, k⟩ := q
  exact k true F pa t H (Gr.refl _ _) C h)⟩
theorem wipe_idem {σ : L2.St} : ∀ {vs : List Nat}, wipe (wipe σ vs) vs = wipe σ vs := fun {vs} => by
  apply List.ext_getElem?
  intro k
  by_cases hk : k ∈ vs
  · have : ∀ (τ : L2.St) (us : List Nat), k ∈ us → (wipe τ us)[k]? = τ[k]?.map fun _ => none := fun τ us => by
      induction us with
      | nil => intro h; simp at h
      | cons j r ih =>
        intro h
        show ((wipe τ r).set j none)[k]? = _
        by_cases hj : j = k
        · subst hj
          rw [List.getElem?_set_self']
          by_cases hr : j ∈ r
          · rw [ih hr]; cases τ[j]? <;> rfl
          · rw [wipe_out hr]; cases τ[j]? <;> rfl
        · rw [List.getElem?_set_ne hj]
          exact ih ((List.mem_cons.mp h).resolve_left (Ne.symm hj))
    rw [this _ _ hk, this _ _ hk]
    cases σ[k]? <;> rfl
  · rw [wipe_out hk]
theorem ev_lc {di : DI} {vs : List Nat} : ∀ σ H Q, tnOf K B (dLc vs di g dt da) σ H Q → tLc (tiOf K B di) (tgU K vs g) (ttU K dt) (teU K da) vs σ H Q := fun σ H Q ⟨F, pa, t, env, P, C, h, k⟩ => by
  refine ⟨F, pa, t, env, _, C, h, fun J items F1 pa1 t1 H1 g1 C1 iok q D hD => ?_⟩
  obtain ⟨Inv, h0, hstep, hd⟩ := q
  refine ⟨fun i m H => m = items.length - i ∧ i ≤ items.length ∧ ∃ F pa t acc us, Gr F1 pa1 F pa ∧ Cf K B F pa t env σ H ∧ Nw B F pa t env σ D ∧ H D = some (.lst us) ∧ RelL K F pa acc us ∧ Inv i acc t,
    ⟨_, rfl, Nat.zero_le _, F1, pa1, t1, [], [], Gr.refl _ _, C1.loose _ hD, C1.nw hD, upd_same, RelL.nil, h0⟩, ?_⟩
  rintro i m H2 ⟨rfl, hi, F2, pa2, t2, acc, us, g2, C2, n2, e2, r2, q2⟩
  have io := iok B F2 pa2 t2 env σ H2 i g2 C2
  by_cases hlt : i < items.length
  · have hx : items[i]? = some items[i] := by simp [hlt]
    obtain ⟨go, yl⟩ := io.2 _ hx
    refine .inr ⟨go, fun H' => ∃ m', m' < items.length - i ∧ (m' = items.length - (i + 1) ∧ i + 1 ≤ items.length ∧ ∃ F pa t acc us, Gr F1 pa1 F pa ∧ Cf K B F pa t env σ H' ∧ Nw B F pa t env σ D ∧ H' D = some (.lst us) ∧ RelL K F pa acc us ∧ Inv (i + 1) acc t), fun H' z => z, fun x H' y => ?_⟩
    obtain ⟨hk, F3, nw3, g3, C3, r3⟩ := yl x H' y
    have e3 : H' D = some (.lst us) := hk _ _ e2
    have dn : D ∉ (Bk F3 pa2 t2 (wipeE env vs) (wipe σ vs) H').ex := fun z => by
      rcases List.mem_append.mp z with z | z
      · exact n2.a (mem_pa.mp z)
      · obtain ⟨j, d, h1, h2⟩ := mem_ownA.mp z
        obtain ⟨h1', hj⟩ := wipeE_some (by simp) h1
        have wo : (wipe σ vs)[j]? = σ[j]? := wipe_out hj
        rw [wo] at h2
        exact n2.s j d h1' h2
    have fD : F3 D = none := by
      cases z : F3 D with
      | none => rfl
      | some o =>
        rcases nw3 D o z with ⟨o', q⟩ | q
        · rw [n2.f] at q; cases q
        · rw [e2] at q; cases q
    have n3 : Nw B F3 pa2 t2 env σ D := ⟨fD, n2.b, n2.a, n2.s, n2.o⟩
    have CB := C3.block vs
    refine ⟨_, F3, pa2, t2, wipeE env vs, items[i], _, CB, r3, hstep i _ acc t2 hx q2, fun F4 pa4 t4 e4 σ4 H4 g4 C4 w4 q4 => ?_⟩
    obtain ⟨we, q4⟩ := q4
    have hs4 : wipe σ4 vs = wipe σ vs := w4.trans wipe_idem
    refine ⟨hs4, _, F4, pa4, t4, e4, _, C4, q4, fun k F5 pa5 t5 H5 g5 C5 q5 => ?_⟩
    have fin : ∀ {F6 : Hp} {pa6 : Option Addr} {t6 : Ts} {H6 : Hp}, Gr F3 pa2 F6 pa6 → Cf K (Bk F3 pa2 t2 (wipeE env vs) (wipe σ vs) H') F6 pa6 t6 e4 σ4 H6 →
        Gr F1 pa1 F6 pa6 ∧ Cf K B F6 pa6 t6 env σ H6 ∧ Nw B F6 pa6 t6 env σ D ∧ H6 D = some (.lst us) ∧ RelL K F6 pa6 acc us := fun {F6 pa6 t6 H6} g6 C6 => by
      obtain ⟨g7, C7⟩ := C3.join C6 we hs4
      have eD : H6 D = some (.lst us) := C6.frm D _ e3 dn (fun ⟨d, z⟩ => by rw [n2.o] at z; cases z)
      refine ⟨(g2.trans g3).trans g7, C7, ⟨?_, n2.b, fun z => ?_, n2.s, noo_of n2.o C6 e3⟩, eD, RelL.mono (g3.trans g7) acc us r2⟩
      · cases z : F6 D with
        | none => rfl
        | some o =>
          rcases C6.new D o z with ⟨o', q⟩ | q
          · have q : F3 D = some o' := q
            rw [fD] at q; cases q
          · have q : H' D = none := q
            rw [e3] at q; cases q
      · rcases (C6.pen D z).2.2 with q | q
        · exact dn q
        · have q : H' D = none := q
          rw [e3] at q; cases q
    cases k with
    | true =>
      refine L2.iteT ?_
      refine ⟨_, F5, pa5, t5, e4, _, C5, q5, fun v d F6 pa6 t6 H6 g6 C6 r6 q6 => ?_⟩
      obtain ⟨hl, q6⟩ := q6
      obtain ⟨h1, h2, h3, h4, h5⟩ := fin ((g4.trans g5).trans g6) C6
      refine ⟨us, h4, by rw [h5.len]; exact zlt hl, _, by omega, rfl, hlt, F6, pa6, t6, acc ++ [d], us ++ [v], h1, h2.write h3, h3, upd_same, h5.append (.cons r6 .nil), q6⟩
    | false =>
      refine L2.iteF ?_
      obtain ⟨h1, h2, h3, h4, h5⟩ := fin (g4.trans g5) C5
      exact ⟨_, by omega, rfl, hlt, F5, pa5, t5, acc, us, h1, h2, h3, h4, h5, q5⟩
  · have e : i = items.length := by omega
    subst e
    exact .inl ⟨io.1 rfl, k D _ (.lst acc) F2 pa2 t2 H2 (g1.trans g2) C2 n2 e2 ⟨us, rfl, r2⟩ (hd acc t2 q2)⟩
theorem q_lc {elt tg iter : Expr} {ifs : List Expr} {scope : Scope} {own : List (Str × Nat)} {pos : Pos} {di : DI} (hc : X.calm = true) (hN : X.N.Nodup) (hi : QI X B tg iter di) (ok : BlkOk X.N X.env.scope scope own)
    (hg : ∀ (s : Shared) (H : Hp) (C : Addr) (cl : List (Str × Addr)) (fp : List Addr) (B : Bs), QG (X.blk s H scope (compEnvC scope cl C X.env) fp) B (own.map (·.2)) tg g) (ht : ∀ (s : Shared) (H : Hp) (C : Addr) (cl : List (Str × Addr)) (fp : List Addr), PTs (X.blk s H scope (compEnvC scope cl C X.env) fp) ifs (ttU X.K dt))
    (he : ∀ (s : Shared) (H : Hp) (C : Addr) (cl : List (Str × Addr)) (fp : List Addr) (B : Bs), QE (X.blk s H scope (compEnvC scope cl C X.env) fp) B elt da) (hs : ∀ x, foldedSetIterable iter X.env x = pure x := by intro _; rfl) :
    QN X B (.ListComp elt [⟨tg, iter, ifs, 0⟩] scope pos) (dLc (own.map (·.2)) di g dt da) :=
  PE.imp (pe_lc hc hN hi ok (fun s H C cl fp => pg_U fun B => hg s H C cl fp B) ht (fun s H C cl fp => pe_U fun B => he s H C cl fp B) hs) ev_lc
end
/-! ### a def keeps its promise -/
section
variable {P : Program} {w : World} {K : PySem.W.Frag} {mg : Str → Option Value} {base : Heap}
/-- the slots at the entry -/
theorem cf_start {F : Hp} {pa : Option Addr} {t : Ts} {H : Hp} {N : List Str} {ds : List D} {vs : List V} (C : Cf K (B0 F pa t H) F pa t [] [] H) (r : RelL K F pa ds vs) : Cf K (B0 F pa t H) F pa t (start0 N ds) (start N vs) H := by
  have hl := r.len
  have val : ∀ (i : Nat) (d : D), (start0 N ds)[i]? = some (Sl.val d) → ds[i]? = some d := fun i d e => by
    unfold start0 at e
    by_cases hi : i < ds.length
    · rw [List.getElem?_append_left (by simpa using hi), List.getElem?_map] at e
      cases q : ds[i]? with
      | none => rw [q] at e; cases e
      | some x => rw [q] at e; cases e; rfl
    · rw [List.getElem?_append_right (by simpa using hi), List.getElem?_replicate] at e
      split at e <;> cases e
  have noown : ∀ (i : Nat) (d : D), (start0 N ds)[i]? ≠ some (Sl.own d) := fun i d e => by
    unfold start0 at e
    by_cases hi : i < ds.length
    · rw [List.getElem?_append_left (by simpa using hi), List.getElem?_map] at e
      cases q : ds[i]? with
      | none => rw [q] at e; cases e
      | some x => rw [q] at e; cases e
    · rw [List.getElem?_append_right (by simpa using hi), List.getElem?_replicate] at e
      split at e <;> cases e
  refine ⟨by simp [start0, L2.start, hl], C.sub, C.bas, C.frm, C.new, C.exl, fun i d e => ?_, fun i d e => absurd e (noown i d), fun i j d e a q => absurd q (noown i d), C.pen, C.pnn, C.tab, C.ntb, C.obs, C.obx, fun i d a q => absurd q (noown i d)⟩
  obtain ⟨v, h1, h2⟩ := r.get (val i d e)
  refine ⟨v, ?_, h2⟩
  unfold L2.start
  have hi : i < vs.length := (List.getElem?_eq_some_iff.mp h1).1
  rw [List.getElem?_append_left (by simpa using hi), List.getElem?_map, h1]
  rfl
/-- THE RULE for a def: its body's reading ds, and what ds does from the arguments -/
theorem fn_ok {x qual : Str} {st : Stmt} {f : Addr} {fd : FuncData} {N ps : List Str} {k : Nat} {sp : PSp} {ds : DS} (Fu : Fun K x qual st f fd) (S : FnScope N ps (defScope st)) (len : ∀ as t Q, sp as t Q → as.length = ps.length)
    (hbody : ∀ (cdv : Value) (A : Around) (outer : List PySem.Env) (s : Shared) (H : Hp) (E : XK) (B : Bs), Room k (A.deeper (envOfC qual (defScope st) s.heap.objs.size f cdv)) → B.Top → B.m = false →
      QSs (cxOf CX0 P w K mg base N qual (defScope st) f cdv A outer s H E).nox B (defBody st) ds)
    (hds : ∀ as t Q, sp as t Q → ds (endsOf Q) (start0 N as) t) : FnOk P w K mg base CX0 (k + 1) f fd ps (lift K sp) := by
  refine Fu.ok S (fun vs H Q E h => ?_) (fun cdv A outer s H vs Q E hr h => ?_)
  · obtain ⟨F, pa, t, as, R, C, r, q, _⟩ := h
    rw [r.len]; exact len as t R q
  · obtain ⟨F, pa, t, as, R, C, r, q, fin⟩ := h
    refine ⟨_, hbody cdv A outer s H E (B0 F pa t H) hr (B0.top F pa t H) rfl, F, pa, t, start0 N as, endsOf R, cf_start C r, hds as t R q, ⟨?_, ?_, ?_, ?_⟩⟩
    · intro F' pa' t' env σ H' g C' q'
      exact fin .non .non F' pa' t' H' C'.nil rD_non q'
    · intro v d F' pa' t' env σ H' g C' r' q'
      exact fin v d F' pa' t' H' C'.nil r' q'
    · intro F' pa' t' env σ H' g C' q'
      exact q'.elim
    · intro F' pa' t' env σ H' g C' q'
      exact q'.elim
/-- .. that tells back a new object -/
theorem fn_okN {x qual : Str} {st : Stmt} {f : Addr} {fd : FuncData} {N ps : List Str} {k : Nat} {sp : PSp} {ds : DS} (Fu : Fun K x qual st f fd) (S : FnScope N ps (defScope st)) (len : ∀ as t Q, sp as t Q → as.length = ps.length)
    (hbody : ∀ (cdv : Value) (A : Around) (outer : List PySem.Env) (s : Shared) (H : Hp) (E : XK) (B : Bs), Room k (A.deeper (envOfC qual (defScope st) s.heap.objs.size f cdv)) → B.Top → B.m = true →
      QSs (cxOf CX0 P w K mg base N qual (defScope st) f cdv A outer s H E).nox B (defBody st) ds)
    (hds : ∀ as t Q, sp as t Q → ds (endsN Q) (start0 N as) t) : FnOk P w K mg base CX0 (k + 1) f fd ps (liftN K sp) := by
  refine Fu.ok S (fun vs H Q E h => ?_) (fun cdv A outer s H vs Q E hr h => ?_)
  · obtain ⟨F, pa, t, as, R, C, r, q, _⟩ := h
    rw [r.len]; exact len as t R q
  · obtain ⟨F, pa, t, as, R, C, r, q, fin⟩ := h
    refine ⟨_, hbody cdv A outer s H E (B1 F pa t H) hr (B1.top F pa t H) rfl, F, pa, t, start0 N as, _, (cf_start C r).cong rfl rfl rfl rfl rfl, hds as t R q, ⟨?_, ?_, ?_, ?_⟩⟩
    · intro F' pa' t' env σ H' g C' q'
      exact q'.elim
    · intro v d F' pa' t' env σ H' g C' r' q'
      rcases r' with ⟨rfl, rfl⟩ | ⟨p, h, rfl, n1, n2, n3, n4, e, r'⟩
      · exact q'.elim
      have q2 : R d t' := by
        cases d with
        | non => exact q'.elim
        | _ => exact q'
      exact fin p h d F' pa' t' H' (C'.nil.cong rfl rfl rfl rfl rfl) n1 n2 n3 n4 e r' q2
    · intro F' pa' t' env σ H' g C' q'
      exact q'.elim
    · intro F' pa' t' env σ H' g C' q'
      exact q'.elim
end
end Q
/-! QH7 -/
namespace Q
open PySem L2 PyProof.Rows
section
variable {X : Cx} {B : Bs} {K : PySem.W.Frag} {a b c e o i' : Expr} {es : List Expr} {pos : Pos} {da db dk dz : DE} {as : DA}
/-- {} -/
theorem q_dnew : QN X B (.Dict [] [] pos) (dC (.dic [] [])) := PE.imp pe_dnewK fun σ H Q ⟨F, pa, t, env, P, C, h, k⟩ => fun p hp =>
  k p _ (.dic [] []) F pa t _ (Gr.refl _ _) (C.loose _ hp) (C.nw hp) upd_same ⟨[], rfl, rfl, RelL.nil⟩ h
end
end Q
/-! QH8 -/
namespace Q
open PySem L2 PyProof.Rows
section
variable {X : Cx} {B : Bs} {K : PySem.W.Frag} {a b c e o i' : Expr} {es : List Expr} {pos : Pos} {da db dk dz : DE} {as : DA}
/-- the readings of a display's pairs -/
def dispT (K : PySem.W.Frag) (l : List (Str × DE)) : List (TE × TE) := l.map fun p => (tC (.str p.1), teU K p.2)
theorem q_pnil : PPs X pos [] [] (dispT X.K []) := pps_nil
theorem q_pcons {k : Str} {j : Nat} {p : Pos} {ks : List (Option Expr)} {vs : List Expr} {l : List (Str × DE)} (hv : ∀ B, QE X B e da) (hr : PPs X pos ks vs (dispT X.K l)) : PPs X pos (some (.Constant (.str k) j p) :: ks) (e :: vs) (dispT X.K ((k, da) :: l)) :=
  pps_cons pe_str (pe_U hv) hr
theorem ev_disp {l : List (Str × DE)} : ∀ {σ : L2.St} {F : Hp} {pa : Option Addr} {t : Ts} {env : En} {H : Hp} {P : List D → Ts → Prop} {Q : List (V × V) → Hp → Prop} {D : Addr} {h : HO}, Cf K B F pa t env σ H → Nw B F pa t env σ D → H D = some h → dDispL l env t P →
    (∀ vs ds F' pa' t' H', Gr F pa F' pa' → Cf K B F' pa' t' env σ H' → Nw B F' pa' t' env σ D → H' D = some h → RelL K F' pa' ds vs → ds.length = l.length → P ds t' → Q ((l.map fun p => V.str p.1).zip vs) H') → tPairs (dispT K l) σ H Q := by
  induction l with
  | nil =>
    intro σ F pa t env H P Q D h C n e hd k
    exact k [] [] F pa t H (Gr.refl _ _) C n e RelL.nil rfl hd
  | cons p l ih =>
    intro σ F pa t env H P Q D h C n e hd k
    have CB := C.block []
    have dn : D ∉ (Bk F pa t (wipeE env []) (wipe σ []) H).ex := fun z => by
      rcases List.mem_append.mp z with z | z
      · exact n.a (mem_pa.mp z)
      · obtain ⟨j, d, h1, h2⟩ := mem_ownA.mp z
        exact n.s j d h1 h2
    refine ⟨_, F, pa, t, env, _, CB, hd, fun v d F1 pa1 t1 H1 g1 C1 r1 q1 => ?_⟩
    obtain ⟨g, C2⟩ := C.join (vs := []) C1 rfl rfl
    have e1 : H1 D = some h := C1.frm D _ e dn (fun ⟨d, z⟩ => by rw [n.o] at z; cases z)
    have n1 : Nw B F1 pa1 t1 env σ D := by
      refine ⟨?_, n.b, fun z => ?_, n.s, noo_of n.o C1 e⟩
      · cases z : F1 D with
        | none => rfl
        | some o =>
          rcases C1.new D o z with ⟨o', q⟩ | q
          · have q : F D = some o' := q
            rw [n.f] at q; cases q
          · have q : H D = none := q
            rw [e] at q; cases q
      · rcases (C1.pen D z).2.2 with q | q
        · exact dn q
        · have q : H D = none := q
          rw [e] at q; cases q
    exact ih C2 n1 e1 q1 fun vs ds F2 pa2 t2 H2 g2 C3 n3 e3 r3 l3 q3 => k (v :: vs) (d :: ds) F2 pa2 t2 H2 (g.trans g2) C3 n3 e3 (.cons (RelD.mono g2 d v r1) r3) (by simp [l3]) q3
theorem merge_nd : ∀ {more acc : List (L2.Key × V)}, ((acc ++ more).map (·.1)).Nodup → mergeK acc more = acc ++ more
  | [], acc, _ => by simp [mergeK]
  | p :: more, acc, h => by
    have : valV acc p.1 = none := by
      cases q : valV acc p.1 with
      | none => rfl
      | some v =>
        exfalso
        have hm : p.1 ∈ acc.map (·.1) := by
          unfold valV at q
          cases z : acc.find? (fun kv => decide (kv.1 = p.1)) with
          | none => rw [z] at q; cases q
          | some x =>
            have h1 := List.mem_of_find?_eq_some z
            have h2 := List.find?_some z
            exact List.mem_map.mpr ⟨x, h1, of_decide_eq_true h2⟩
        rw [List.map_append, List.nodup_append] at h
        exact h.2.2 _ hm _ (List.mem_cons_self ..) rfl
    show mergeK (putK acc p.1 p.2) more = _
    rw [putK_new p.2 this, merge_nd (by simpa using h)]
    simp
theorem q_disp {keys : List (Option Expr)} {values : List Expr} {l : List (Str × DE)} (h : PPs X pos keys values (dispT X.K l)) (nd : (l.map fun p => p.1).Nodup) (h15 : l.length ≤ 15) (hall : keys.all (·.isSome) = true := by rfl) (hl : keys.length = values.length := by rfl) (h0 : keys ≠ [] := by exact fun z => nomatch z)
    (h15' : keys.length ≤ 15 := by decide) : QN X B (.Dict keys values pos) (dDisp l) := PE.imp (pe_disp h hall hl h0 h15') fun σ H Q ⟨F, pa, t, env, P, C, hd, k⟩ => fun p hp => by
  refine ev_disp (C.loose _ hp) (C.nw hp) upd_same hd fun vs ds F' pa' t' H' g C' n e r ld q => ?_
  have hlen : vs.length = l.length := by rw [r.len, ld]
  have e1 : ∀ (l : List (Str × DE)) (vs : List V), (l.map fun p => V.str p.1).zip vs = ((l.map fun p => (Sum.inr p.1 : L2.Key)).zip vs).map fun kv => (kV kv.1, kv.2) := by
    intro l
    induction l with
    | nil => intro vs; rfl
    | cons x l ih =>
      intro vs
      cases vs with
      | nil => rfl
      | cons v vs => simp only [List.map_cons, List.zip_cons_cons, ih vs]; rfl
  have nd2 : (((l.map fun p => (Sum.inr p.1 : L2.Key)).zip vs).map (·.1)).Nodup := by
    rw [List.map_fst_zip (by simp [hlen])]
    have : (l.map fun p => (Sum.inr p.1 : L2.Key)) = (l.map fun p => p.1).map Sum.inr := by simp
    rw [this]
    exact List.Pairwise.map _ (fun a b h z => h (Sum.inr.inj z)) nd
  have e2 := merge_nd (more := (l.map fun p => (Sum.inr p.1 : L2.Key)).zip vs) (acc := []) (by simpa using nd2)
  refine ⟨e, (l.map fun p => (Sum.inr p.1 : L2.Key)).zip vs, e1 l vs, by rw [List.length_zip]; simp; omega, ?_⟩
  rw [e2]
  exact k p _ _ F' pa' t' _ g (C'.write n) n upd_same (show RelO1 X.K F' pa' (.dic (l.map fun p => .inr p.1) ds) _ from ⟨vs, rfl, by simp [hlen], r⟩) q
end
end Q
/-! QH9 -/
namespace Q
open PySem L2 PyProof.Rows
section
variable {X : Cx} {B : Bs} {K : PySem.W.Frag} {a b c e o i' : Expr} {es : List Expr} {pos : Pos} {da db dk dz : DE} {as : DA}
theorem Cf.wrPen {F : Hp} {pa : Option Addr} {t t' : Ts} {env : En} {σ : L2.St} {H : Hp} (C : Cf K B F pa t env σ H) {a : Addr} {h : HO} (e : pa = some a) (p : PenOk F t' h) (ho : t'.obs = t.obs := by rfl) : Cf K B F pa t' env σ (upd H a h) := by
  obtain ⟨f0, ⟨h0, e0, p0⟩, x0⟩ := C.pen a e
  have nb : ∀ {c : Addr} {u : HO}, F c = some u → c ≠ a := fun z => ne_of_none z f0
  refine ⟨C.len, fun c u q => by rw [upd_ne (nb q)]; exact C.sub c u q, C.bas, fun c u q hx ho => ?_, C.new, fun c hc => ?_, C.val, fun i d q => ?_, C.sep, fun c q => ?_, C.pnn, C.tab.hs (fun p _ ps z => by rw [upd_ne (fun y => by rw [y, e0] at z; obtain ⟨ca, w, _⟩ := p0; rw [w] at z; cases z)]; exact z), C.ntb, fun c d q => by
    rw [ho] at q
    obtain ⟨h1, ⟨u, h2, h3⟩, h4, h5⟩ := C.obs c d q
    refine ⟨h1, ⟨u, ?_, h3⟩, h4, h5⟩
    rw [upd_ne ?_]
    · exact h2
    · rintro rfl
      exact h4 e, fun c z => by rw [ho]; exact C.obx c z, fun i d c z s => by rw [ho]; exact C.osp i d c z s⟩
  · rw [upd_ne ?_]
    · exact C.frm c u q hx ho
    · rintro rfl
      rcases x0 with z | z
      · exact hx z
      · rw [z] at q; cases q
  · by_cases hc' : c = a
    · subst hc'; exact ⟨h, upd_same⟩
    · obtain ⟨u, q⟩ := C.exl c hc
      exact ⟨u, by rw [upd_ne hc']; exact q⟩
  · obtain ⟨c, u, h1, h2, h3, h4, h5, h6⟩ := C.own i d q
    refine ⟨c, u, h1, ?_, h3, h4, h5, h6⟩
    rw [upd_ne ?_]
    · exact h2
    · rintro rfl
      exact h5 e
  · rw [e] at q; cases q
    exact ⟨f0, ⟨h, upd_same, p⟩, x0⟩
theorem pen_at {F : Hp} {pa : Option Addr} {t : Ts} {env : En} {σ : L2.St} {H : Hp} {v : V} (C : Cf K B F pa t env σ H) (r : RelX K F pa env σ .pen v) : ∃ a ca, v = .ref a ∧ pa = some a ∧ H a = some (.dK (penRows t ca)) ∧ F ca = some (.lst (t.cells.map V.int)) := by
  rcases r with r | ⟨i, h1, h2⟩
  · unfold RelD at r
    obtain ⟨a, e, rfl⟩ := r
    obtain ⟨_, ⟨h, q, ca, rfl, z⟩, _⟩ := C.pen a e
    exact ⟨a, ca, rfl, e, q, z⟩
  · obtain ⟨a, h, s1, q, z, _⟩ := C.own i _ h1
    exact z.elim
theorem q_penC {j : Nat} {p1 : Pos} (hu : X.A.units + 1 < cLine) (ho : QV X B o da) (hs : NoSl (.Constant (.str "cells") j p1)) : QE X B (.Subscript o (.Constant (.str "cells") j p1) pos) (dPenC da) := PE.imp (pe_dget hu ho (pe_str (x := "cells")) hs) fun σ H Q ⟨F, pa, t, env, P, C, h, k⟩ =>
  ⟨F, pa, t, env, _, C, h, fun v d F1 pa1 t1 H1 g1 C1 r1 q1 => by
    cases d with
    | pen =>
      obtain ⟨a, ca, rfl, e, q, z⟩ := pen_at C1 r1
      refine ⟨a, .ref ca, rfl, ?_, k _ _ F1 pa1 t1 H1 g1 C1 (by unfold RelD; exact ⟨ca, _, rfl, z, RelL.of_ints _⟩) q1⟩
      have dg := DGet.k (k := Sum.inr "cells") q
      have : valV (penRows t1 ca) (Sum.inr "cells" : L2.Key) = some (.ref ca) := by
        unfold penRows; split <;> exact valV_pos rfl
      rw [this] at dg
      exact dg
    | _ => exact q1.elim⟩
theorem val2 {k1 k2 k3 : Str} {v1 v2 v3 : V} (h : ¬ k1 = k2) : valV [((Sum.inr k1 : L2.Key), v1), (.inr k2, v2), (.inr k3, v3)] (.inr k2) = some v2 := by
  rw [valV_neg (fun z => h (Sum.inr.inj z)), valV_pos rfl]
theorem val3 {k1 k2 k3 : Str} {v1 v2 v3 : V} (h : ¬ k1 = k3) (h' : ¬ k2 = k3) : valV [((Sum.inr k1 : L2.Key), v1), (.inr k2, v2), (.inr k3, v3)] (.inr k3) = some v3 := by
  rw [valV_neg (fun z => h (Sum.inr.inj z)), valV_neg (fun z => h' (Sum.inr.inj z)), valV_pos rfl]
theorem put2 {k1 k2 k3 : Str} {v1 v2 v3 y : V} (h : ¬ k1 = k2) (h' : ¬ k3 = k2) : putK [((Sum.inr k1 : L2.Key), v1), (.inr k2, v2), (.inr k3, v3)] (.inr k2) y = [(.inr k1, v1), (.inr k2, y), (.inr k3, v3)] := by
  have e1 : ¬ ((Sum.inr k1 : L2.Key) = Sum.inr k2) := fun z => h (Sum.inr.inj z)
  have e3 : ¬ ((Sum.inr k3 : L2.Key) = Sum.inr k2) := fun z => h' (Sum.inr.inj z)
  simp [putK, e1, e3, h, h']
theorem put3 {k1 k2 k3 : Str} {v1 v2 v3 y : V} (h : ¬ k1 = k3) (h' : ¬ k2 = k3) : putK [((Sum.inr k1 : L2.Key), v1), (.inr k2, v2), (.inr k3, v3)] (.inr k3) y = [(.inr k1, v1), (.inr k2, v2), (.inr k3, y)] := by
  simp [putK, h, h']
theorem q_penA {b : Bool} {kw : Str} {j : Nat} {p1 : Pos} (hu : X.A.units + 1 < cLine) (ho : QV X B o da) (hk : kw = (if b then "turn" else "at" : Str)) (hs : NoSl (.Constant (.str kw) j p1)) : QE X B (.Subscript o (.Constant (.str kw) j p1) pos) (dPenA b da) := PE.imp (pe_dget hu ho (pe_str (x := kw)) hs) fun σ H Q ⟨F, pa, t, env, P, C, h, k⟩ =>
  ⟨F, pa, t, env, _, C, h, fun v d F1 pa1 t1 H1 g1 C1 r1 q1 => by
    cases d with
    | pen =>
      obtain ⟨hb, q1⟩ := q1
      obtain ⟨a, ca, rfl, e, q, z⟩ := pen_at C1 r1
      refine ⟨a, .int t1.at', rfl, ?_, k _ _ F1 pa1 t1 H1 g1 C1 (rD_int _) q1⟩
      have dg := DGet.k (k := Sum.inr kw) q
      have : valV (penRows t1 ca) (Sum.inr kw : L2.Key) = some (.int t1.at') := by
        unfold penRows
        rw [hb, hk]
        cases b
        · exact val2 (by decide +kernel)
        · exact val2 (by decide +kernel)
      rw [this] at dg
      exact dg
    | _ => exact q1.elim⟩
theorem q_penL {b : Bool} {kw : Str} {j : Nat} {p1 : Pos} (hu : X.A.units + 1 < cLine) (ho : QV X B o da) (hk : kw = (if b then "rest" else "left" : Str)) (hs : NoSl (.Constant (.str kw) j p1)) : QE X B (.Subscript o (.Constant (.str kw) j p1) pos) (dPenL b da) := PE.imp (pe_dget hu ho (pe_str (x := kw)) hs) fun σ H Q ⟨F, pa, t, env, P, C, h, k⟩ =>
  ⟨F, pa, t, env, _, C, h, fun v d F1 pa1 t1 H1 g1 C1 r1 q1 => by
    cases d with
    | pen =>
      obtain ⟨hb, q1⟩ := q1
      obtain ⟨a, ca, rfl, e, q, z⟩ := pen_at C1 r1
      refine ⟨a, .int t1.left, rfl, ?_, k _ _ F1 pa1 t1 H1 g1 C1 (rD_int _) q1⟩
      have dg := DGet.k (k := Sum.inr kw) q
      have : valV (penRows t1 ca) (Sum.inr kw : L2.Key) = some (.int t1.left) := by
        unfold penRows
        rw [hb, hk]
        cases b
        · exact val3 (by decide +kernel) (by decide +kernel)
        · exact val3 (by decide +kernel) (by decide +kernel)
      rw [this] at dg
      exact dg
    | _ => exact q1.elim⟩
theorem pen_name {F : Hp} {pa : Option Addr} {t : Ts} {env : En} {σ : L2.St} {H : Hp} {i : Nat} {p : Prop} (C : Cf K B F pa t env σ H) (h : match env[i]? with | some (.val .pen) => p | _ => False) : p ∧ ∃ a ca, σ[i]? = some (some (V.ref a)) ∧ pa = some a ∧ H a = some (.dK (penRows t ca)) ∧ F ca = some (.lst (t.cells.map V.int)) := by
  split at h
  · rename_i e
    obtain ⟨v, h1, h2⟩ := C.val i _ e
    obtain ⟨a, ca, rfl, r⟩ := pen_at C (.inl h2)
    exact ⟨h, a, ca, h1, r⟩
  · exact h.elim
theorem q_putA {b : Bool} {kw : Str} {i : Nat} {x : Str} {j : Nat} {p p1 pos' : Pos} (hu : X.A.units + 1 < cLine) (hx : PE X (.Name x p) (tVar i)) (he : QE X B e da) (hk : kw = (if b then "turn" else "at" : Str)) (hs : swapsWith e (some (.Subscript (.Name x p) (.Constant (.str kw) j p1) pos')) pos.line X.env = pure false := by rfl) :
    QS X B (.Assign [.Subscript (.Name x p) (.Constant (.str kw) j p1) pos'] e pos) (dPutA b i da) :=
  PS.imp (ps_dput hu hx (pe_str (x := kw)) he hs) fun De σ H ⟨F, pa, t, env, DD, C, h, R⟩ => ⟨F, pa, t, env, _, C, h, fun w y F' pa' t' H' g' C' r2 q2 => by
    cases y with
    | int n =>
      unfold RelD at r2
      subst r2
      obtain ⟨⟨hb, q2⟩, a, ca, s1, e1, q, z⟩ := pen_name C' q2
      refine ⟨.ref a, s1, a, _, rfl, DPut.k (k := Sum.inr kw) q (by unfold penRows; rw [sizeLine_eq]; split <;> simp), ?_⟩
      refine R.nx F' pa' ⟨t'.cells, n, t'.left, t'.tape, t'.obs⟩ env σ _ g' (C'.wrPen (t' := ⟨t'.cells, n, t'.left, t'.tape, t'.obs⟩) e1 ⟨ca, ?_, z⟩) q2
      unfold penRows
      rw [hb, hk]
      cases b
      · exact congrArg HO.dK (put2 (k1 := "cells") (k2 := "at") (k3 := "left") (by decide +kernel) (by decide +kernel))
      · exact congrArg HO.dK (put2 (k1 := "cells") (k2 := "turn") (k3 := "rest") (by decide +kernel) (by decide +kernel))
    | _ => exact q2.elim⟩
theorem q_putL {b : Bool} {kw : Str} {i : Nat} {x : Str} {j : Nat} {p p1 pos' : Pos} (hu : X.A.units + 1 < cLine) (hx : PE X (.Name x p) (tVar i)) (he : QE X B e da) (hk : kw = (if b then "rest" else "left" : Str)) (hs : swapsWith e (some (.Subscript (.Name x p) (.Constant (.str kw) j p1) pos')) pos.line X.env = pure false := by rfl) :
    QS X B (.Assign [.Subscript (.Name x p) (.Constant (.str kw) j p1) pos'] e pos) (dPutL b i da) :=
  PS.imp (ps_dput hu hx (pe_str (x := kw)) he hs) fun De σ H ⟨F, pa, t, env, DD, C, h, R⟩ => ⟨F, pa, t, env, _, C, h, fun w y F' pa' t' H' g' C' r2 q2 => by
    cases y with
    | int n =>
      unfold RelD at r2
      subst r2
      obtain ⟨⟨hb, q2⟩, a, ca, s1, e1, q, z⟩ := pen_name C' q2
      refine ⟨.ref a, s1, a, _, rfl, DPut.k (k := Sum.inr kw) q (by unfold penRows; rw [sizeLine_eq]; split <;> simp), ?_⟩
      refine R.nx F' pa' ⟨t'.cells, t'.at', n, t'.tape, t'.obs⟩ env σ _ g' (C'.wrPen (t' := ⟨t'.cells, t'.at', n, t'.tape, t'.obs⟩) e1 ⟨ca, ?_, z⟩) q2
      unfold penRows
      rw [hb, hk]
      cases b
      · exact congrArg HO.dK (put3 (k1 := "cells") (k2 := "at") (k3 := "left") (by decide +kernel) (by decide +kernel))
      · exact congrArg HO.dK (put3 (k1 := "cells") (k2 := "turn") (k3 := "rest") (by decide +kernel) (by decide +kernel))
    | _ => exact q2.elim⟩
end
/-! ### the law's own def -/
section
variable {P : Program} {w : World} {K : PySem.W.Frag} {mg : Str → Option Value} {base : Heap}
/-- the law's promise -/
def spLaw (K : PySem.W.Frag) : Sp := fun vs H Q _ => ∃ (a : Addr) (ns : List Int), vs = [.ref a] ∧ Only H ∧ SqL K H a (ns.map V.int) ∧ ns.length ≤ 63 ∧ ∀ H', Q (.bl true) H'
/-- the frozen part at the entry: nothing but what may be the script -/
theorem law_body {qual : Str} {st : Stmt} {f : Addr} {N : List Str} {i : Nat} {s0 : Stmt} {rest : List Stmt} {dp : DE} {ds : DS} (hst : defBody st = s0 :: rest) {cdv : Value} {A : Around} {outer : List PySem.Env} {s : Shared} {H : Hp} {vs : List V} {Q : VK} {E : XK}
    (hfirst : ∀ B : Bs, PS (cxOf CX0 P w K mg base N qual (defScope st) f cdv A outer s H E).nox s0 (tAsg (tnOf K B dp) (L2.gName i)))
    (hbody : ∀ B : Bs, B.Top → B.m = false → QSs (cxOf CX0 P w K mg base N qual (defScope st) f cdv A outer s H E).nox B rest ds)
    (hi : i ≠ 0 ∧ i < N.length) (tape : Bool)
    (hds : ∀ ns : List Int, ns.length ≤ 63 → dp (start0 N [.scr ns]) ⟨[], 0, 0, false, noObs⟩ fun d _ => ∃ cs : List Int, d = .dic (if tape then [.inr "cells", .inr "turn", .inr "rest"] else [.inr "cells", .inr "at", .inr "left"]) [.lst (cs.map .int), .int 0, .int 0] ∧ cs.length ≤ 63 ∧
      ds (endsOf fun d _ => d = .bl true) ((start0 N [.scr ns]).set i (.val .pen)) ⟨cs, 0, 0, tape, noObs⟩) (h : spLaw K vs H Q E) :
    ∃ t, PSs (cxOf CX0 P w K mg base N qual (defScope st) f cdv A outer s H E).nox (defBody st) t ∧ t { nx := fun _ H' => Q .non H', rt := Q } (start N vs) H := by
  obtain ⟨a, ns, rfl, hO, hS, hl, fin⟩ := h
  rw [hst]
  have hall : PSs (cxOf CX0 P w K mg base N qual (defScope st) f cdv A outer s H E).nox rest (fun De σ H' => ∃ p' : Addr, tsOf K ⟨fun _ => none, fun _ => none, [], some p', false, [], fun _ => False⟩ ds De σ H') := ⟨fun pins s' σ H' De I ⟨p', q⟩ => (hbody ⟨fun _ => none, fun _ => none, [], some p', false, [], fun _ => False⟩ (fun a ha => by simp at ha) rfl).run pins s' σ H' De I q⟩
  refine ⟨_, pss_cons (hfirst (B0 H none ⟨[], 0, 0, false, noObs⟩ H)) hall, ?_⟩
  have C0 : Cf K (B0 H none ⟨[], 0, 0, false, noObs⟩ H) H none ⟨[], 0, 0, false, noObs⟩ [] [] H := ⟨rfl, fun _ _ e => e, fun _ _ e => e, fun _ _ e _ _ => e, fun a o e => .inl ⟨o, e⟩, fun a ha => by simp [B0] at ha, fun i d e => by simp at e, fun i d e => by simp at e, fun i j d e a q => by simp at q, fun a e => by simp at e, rfl, TabF.nil, fun a ps e => by
    rcases hO a with z | ⟨o, xs, z⟩ <;> rw [z] at e <;> simp at e, fun a d e => (nomatch e), fun a e => e, fun i d a e => by simp at e⟩
  have rs : RelL K H none [.scr ns] [.ref a] := .cons (by unfold RelD; exact ⟨a, rfl, hS⟩) .nil
  refine ⟨H, none, _, _, _, cf_start C0 rs, hds ns hl, fun p' h d F' pa' t' H' g C' n e r q => ?_⟩
  obtain ⟨cs, rfl, hcs, q⟩ := q
  obtain ⟨us, rfl, hlen, rl⟩ := r
  obtain ⟨v1, u1, rfl, r1, rl⟩ := rl.inv
  obtain ⟨v2, u2, rfl, r2, rl⟩ := rl.inv
  obtain ⟨v3, u3, rfl, r3, rl⟩ := rl.inv
  obtain rfl := rl.inv0
  unfold RelD at r1 r2 r3
  obtain ⟨ca, us, rfl, ec, rl4⟩ := r1
  subst r2 r3
  have eu : us = cs.map V.int := by
    have : ∀ {cs : List Int} {vs : List V}, RelL K F' pa' (cs.map .int) vs → vs = cs.map V.int := by
      intro cs
      induction cs with
      | nil => intro vs r; exact r.inv0
      | cons c cs ih =>
        intro vs r
        obtain ⟨v, vr, rfl, r1, r2⟩ := RelL.inv (show RelL K F' pa' (D.int c :: cs.map .int) vs from r)
        unfold RelD at r1
        rw [r1, ih r2]; rfl
    exact this rl4
  subst eu
  have C2 : Cf K ⟨fun _ => none, fun _ => none, [], some p', false, [], fun _ => False⟩ F' (some p') ⟨cs, 0, 0, tape, noObs⟩ ((start0 N [.scr ns]).set i (.val .pen)) ((start N [.ref a]).set i (some (.ref p'))) H' := by
    have noown : ∀ (j : Nat) (d : D), ((start0 N [.scr ns]).set i (.val .pen))[j]? ≠ some (Sl.own d) := fun j d e => by
      rcases get_set e with ⟨_, z⟩ | ⟨_, z⟩
      · cases z
      · have : ∀ (j : Nat) (d : D), (start0 N [.scr ns])[j]? ≠ some (Sl.own d) := fun j d e => by
          unfold start0 at e
          cases j with
          | zero => simp at e
          | succ j =>
            simp [List.getElem?_replicate] at e
        exact this j d z
    refine ⟨by simp [C'.len], C'.sub, fun _ _ z => (by cases z), fun _ _ z => (by cases z), fun _ _ _ => .inr rfl, fun _ z => (by simp at z), fun j d e => ?_, fun j d e => absurd e (noown j d), fun j j' d d' a q => absurd q (noown j d), fun a' e' => ?_, rfl, TabF.nil, C'.ntb, fun a d z => (nomatch z), fun a z => z.elim, fun j d a q => absurd q (noown j d)⟩
    · rcases get_set e with ⟨rfl, z⟩ | ⟨ne, z⟩
      · cases z
        refine ⟨.ref p', ?_, by unfold RelD; exact ⟨p', rfl, rfl⟩⟩
        rw [List.getElem?_set_self]
        unfold L2.start
        simp; omega
      · obtain ⟨v, h1, h2⟩ := C'.val j d z
        refine ⟨v, by rw [List.getElem?_set_ne ne]; exact h1, ?_⟩
        -- the only datum there is the script
        have hj : j = 0 ∧ d = .scr ns := by
          unfold start0 at z
          cases j with
          | zero => simp at z; exact ⟨rfl, z.symm⟩
          | succ j => simp [List.getElem?_replicate] at z
        obtain ⟨rfl, rfl⟩ := hj
        unfold RelD at h2 ⊢
        exact h2
    · cases e'
      refine ⟨n.f, ⟨_, e, ca, ?_, ec⟩, .inr rfl⟩
      unfold penRows
      cases tape <;> rfl
  refine ⟨p', F', some p', _, _, _, C2, q, ⟨?_, ?_, ?_, ?_⟩⟩
  · intro F pa t env σ H g C q
    cases q
  · intro v d F pa t env σ H g C r q
    have q : d = .bl true := q
    subst q
    unfold RetRel RelD at r
    rw [r]; exact fin H
  · intro F pa t env σ H g C q
    exact q.elim
  · intro F pa t env σ H g C q
    exact q.elim
end
end Q
/-! QH10 -/
namespace Q
open PySem L2 PyProof.Rows
section
variable {X : Cx} {B : Bs} {K : PySem.W.Frag}
theorem iop_mulW : OpR X (inplaceOp .Mult) (rI CMulW fun i j => .int (i * j)) := opI fun _ _ _ _ _ _ _ hc q => imul_int q hc.ok
theorem iop_fdivW : OpR X (inplaceOp .FloorDiv) (rI CDivW fun i j => .int (i / j)) := opI fun i j _ _ _ _ _ hc q => by
  have h1 : (0 : Int) < j := hc.1
  exact ifloordiv_int (by omega) (by rw [Int.fdiv_eq_ediv_of_nonneg i (by omega)]; exact q) (.inl (PyProof.noPylong_of_log2 hc.2))
theorem iop_mul2 : OpR X (inplaceOp .Mult) (fun x y H Q => rI CMul (fun i j => .int (i * j)) x y H Q ∨ rI CMulW (fun i j => .int (i * j)) x y H Q) := iop_mul.or iop_mulW
theorem rop_addI : ROp K (rI0 fun i j => .int (i + j)) oAddI := rop_int0 (f := fun i j => .int (i + j)) (fun _ _ _ _ => rD_int _) fun x y P h => by
  cases x <;> cases y <;> first | exact ⟨_, _, rfl, rfl, h⟩ | exact (False.elim h)
theorem rop_mulI : ROp K (fun x y H Q => rI CMul (fun i j => .int (i * j)) x y H Q ∨ rI CMulW (fun i j => .int (i * j)) x y H Q) oMulI := fun B F pa t env σ H x y v u P Q W rx ry h k => by
  cases x with
  | int i =>
    cases y with
    | int j =>
      rcases sm_mul h.1 with c | c
      · exact .inl ⟨i, j, rx.int W, ry.int W, c, k _ _ F H (Gr.refl _ _) W (rD_int _) h.2⟩
      · exact .inr ⟨i, j, rx.int W, ry.int W, c, k _ _ F H (Gr.refl _ _) W (rD_int _) h.2⟩
    | _ => exact h.elim
  | _ => exact h.elim
end
end Q
/-! QH11 -/
namespace Q
open PySem L2 PyProof.Rows
section
variable {X : Cx} {B : Bs} {K : PySem.W.Frag} {a b c e o : Expr} {es : List Expr} {pos : Pos} {da db dc : DE} {as : DA} {st : Stmt}
/-! ### a list or a tuple, walked -/
def iAny (K : PySem.W.Frag) (tl : TE) : TI := fun σ H R => tl σ H fun x H1 => ∃ a, x = .ref a ∧ (((∃ xs, SqL K H1 a xs) ∧ R (Itl K a) H1) ∨ ((∃ xs, SqT K H1 a xs) ∧ R (Itt K a) H1))
theorem pi_any {tg : Expr} {tl : TE} (hl : PE X e tl) : PI X tg e (iAny X.K tl) := ⟨fun pins s σ H R I h => by
  refine thn (hl.run pins s σ H _ I h) ?_
  rintro v s1 ⟨x, H1, I1, r1, a, rfl, h2⟩
  cases r1
  have fp : ∀ b ∈ [s1.heap.objs.size], FpOk X pins H1 b := by
    intro b hb
    rw [List.mem_singleton.mp hb]
    exact I1.fpOk (Nat.le_refl _) (I1.hok.fresh (Nat.le_refl _))
  have kp : ∀ (u : Obj) b o, s1.heap.get? b = some o → (s1.heap.push u).get? b = some o := fun u b o z => Heap.get?_push_of_some _ z
  rcases h2 with ⟨⟨xs, hq⟩, q⟩ | ⟨⟨xs, hq⟩, q⟩
  · have L := I1.list hq
    obtain ⟨its, rv, p, hz⟩ := L
    exact wpAny_pyIter_list p.isList ⟨_, _, _, _, H1, rfl, I1.kept (t' := s1.toks) (kp _), turn_list a _, ⟨_, Heap.get?_push_size _ rfl, rfl, rfl⟩, fp, q⟩
  · have L := I1.tuple hq
    obtain ⟨its, rv, p, hz⟩ := L
    exact wpAny_pyIter_tuple (s := s1) (items := its.toArray) p ⟨_, _, _, _, H1, rfl, I1.kept (t' := s1.toks) (kp _), turn_tuple a _, ⟨_, Heap.get?_push_size _ rfl, rfl, rfl⟩, fp, q⟩⟩
theorem q_iany {tg : Expr} (he : QE X B e da) : QI X B tg e (iSeq da) := PI.imp (pi_any he) fun σ H R ⟨F, pa, t, env, P, C, h, k⟩ => ⟨F, pa, t, env, _, C, h, fun v d F' pa' t' H' g C' r q => by
  cases d with
  | lst l =>
    have r' := r
    unfold RelD at r'
    obtain ⟨a, vs, rfl, e1, r1⟩ := r'
    exact ⟨a, rfl, .inl ⟨⟨vs, SqL.of (C'.sub _ _ e1)⟩, k _ l F' pa' t' H' g C' (it_list (SqL.of e1) r1) q⟩⟩
  | tup l =>
    have r' := r
    unfold RelD at r'
    obtain ⟨a, vs, rfl, e1, r1⟩ := r'
    exact ⟨a, rfl, .inr ⟨⟨vs, SqT.of (C'.sub _ _ e1)⟩, k _ l F' pa' t' H' g C' (it_tup e1 r1) q⟩⟩
  | scr ns =>
    have r' := r
    unfold RelD at r'
    obtain ⟨a, rfl, e1⟩ := r'
    exact ⟨a, rfl, .inl ⟨⟨_, sq_mono C'.sub e1⟩, k _ _ F' pa' t' H' g C' (it_list e1 (RelL.of_ints ns)) q⟩⟩
  | _ => exact q.elim⟩
/-! ### isinstance, of built-in types -/
theorem RelX.tyx {F : Hp} {pa : Option Addr} {t : Ts} {env : En} {σ : L2.St} {H : Hp} {d : D} {v : V} {n : Tn} (W : Cf K B F pa t env σ H) (r : RelX K F pa env σ d v) (h : tn d = some n) : TyX K H v (.type n.name) := by
  cases d with
  | non => cases h; rw [r.non W]; exact .base .non
  | bl b => cases h; rw [r.bl W]; exact .base (.bl b)
  | int i => cases h; rw [r.int W]; exact .base (.int i)
  | str s => cases h; rw [r.str W]; exact .base (.str s)
  | lst l => cases h; obtain ⟨a, us, rfl, e, _⟩ := r.lst W; exact .base (.lst e)
  | tup l => cases h; obtain ⟨a, us, rfl, e, _⟩ := r.tup W; exact .base (.tup e)
  | dic ks l => cases h; obtain ⟨a, us, rfl, e, _⟩ := r.dic W; exact .base (.dK e)
  | _ => cases h
theorem kit_isa (n c : Tn) : PySem.W.kitOne K (.type n.name) (.type c.name) = some (isa n c) := by
  refine kit_ty ?_
  cases n <;> cases c <;> decide +kernel
theorem kit_isas (n : Tn) : ∀ cs : List Tn, PySem.W.kitAny K (.type n.name) (cs.map fun c => .type c.name) = some (cs.any (isa n))
  | [] => rfl
  | c :: cs => kitAny_cons (b := isa n c) (kit_isa n c) (fun h => by rw [kit_isas n cs]; simp [h]) (fun h => by simp [h])
section
variable {p p2 tpos : Pos} {x : Str}
/-- isinstance(e, T) -/
theorem q_isi {c : Tn} (he : QV X B e da) (hg : Gl X "isinstance") (hm : X.mg "isinstance" = none) (hg2 : Gl X x) (hm2 : X.mg x = none) (hv : bootBuiltins x = some (.type c.name)) (hn : x ≠ "__name__" := by decide) (hdb : (x == ("__debug__" : Str)) = false := by decide)
    (hs : starEach [e, .Name x p2] X.env = (false, eval e X.env) :: starEach [.Name x p2] X.env := by rfl) (hs2 : starEach [.Name x p2] X.env = (false, eval (.Name x p2) X.env) :: starEach [] X.env := by rfl) :
    QE X B (.Call (.Name "isinstance" p) [e, .Name x p2] [] pos) (dIsi [c] da) :=
  PE.imp (pe_callB call_isi hg hm (by rfl) (pa_cons he (pa_cons (pe_bltn (v := .ty c.name) hg2 hm2 hv rfl hn hdb) pa_nil hs2) hs) (by decide) (by decide) hs (by rfl)) fun σ H Q ⟨F, pa, t, env, P, C, h, k⟩ =>
    ⟨F, pa, t, env, _, C, h, fun v d F' pa' t' H' g C' r q => by
      split at q
      · rename_i n hn
        exact ⟨v, .ty c.name, _, _, _, rfl, .ty _, r.tyx C' hn, kit_isa n c, k _ _ F' pa' t' H' g C' (rD_bl _) (by simpa using q)⟩
      · exact q.elim⟩
theorem q_isi2 {c c2 : Tn} {x2 : Str} {p3 : Pos} {kk : Nat} (he : QV X B e da) (hg : Gl X "isinstance") (hm : X.mg "isinstance" = none) (hg2 : Gl X x) (hm2 : X.mg x = none) (hv : bootBuiltins x = some (.type c.name))
    (hg3 : Gl X x2) (hm3 : X.mg x2 = none) (hv3 : bootBuiltins x2 = some (.type c2.name)) (hn : x ≠ "__name__" := by decide) (hdb : (x == ("__debug__" : Str)) = false := by decide) (hn2 : x2 ≠ "__name__" := by decide) (hdb2 : (x2 == ("__debug__" : Str)) = false := by decide)
    (hs : starEach [e, .Tuple [.Name x p2, .Name x2 p3] kk tpos] X.env = (false, eval e X.env) :: starEach [.Tuple [.Name x p2, .Name x2 p3] kk tpos] X.env := by rfl)
    (hs1 : starEach [.Tuple [.Name x p2, .Name x2 p3] kk tpos] X.env = (false, eval (.Tuple [.Name x p2, .Name x2 p3] kk tpos) X.env) :: starEach [] X.env := by rfl)
    (hs2 : starEach [.Name x p2, .Name x2 p3] X.env = (false, eval (.Name x p2) X.env) :: starEach [.Name x2 p3] X.env := by rfl) (hs3 : starEach [.Name x2 p3] X.env = (false, eval (.Name x2 p3) X.env) :: starEach [] X.env := by rfl) :
    QE X B (.Call (.Name "isinstance" p) [e, .Tuple [.Name x p2, .Name x2 p3] kk tpos] [] pos) (dIsi [c, c2] da) :=
  PE.imp (pe_callB call_isiT hg hm (by rfl) (pa_cons he (pa_cons (pe_tup (pa_cons (pe_bltn (v := .ty c.name) hg2 hm2 hv rfl hn hdb) (pa_cons (pe_bltn (v := .ty c2.name) hg3 hm3 hv3 rfl hn2 hdb2) pa_nil hs3) hs2)) pa_nil hs1) hs) (by decide) (by decide) hs (by rfl)) fun σ H Q ⟨F, pa, t, env, P, C, h, k⟩ =>
    ⟨F, pa, t, env, _, C, h, fun v d F' pa' t' H' g C' r q => by
      split at q
      · rename_i n hn
        refine ⟨by show 2 ≤ sizeLine; unfold sizeLine; decide, fun tp ht => ?_⟩
        have C2 := C'.loose (.tup [V.ty c.name, V.ty c2.name]) ht
        exact ⟨v, tp, _, _, _, _, rfl, upd_same, .cons (.ty _) (.cons (.ty _) .nil), r.tyx C2 hn, kit_isas n [c, c2], k _ _ F' pa' t' _ g C2 (rD_bl _) q⟩
      · exact q.elim⟩
end
/-! ### an instance made -/
def BI (F : Hp) (pa : Option Addr) (t : Ts) (H : Hp) (x : Addr) : Bs := ⟨F, H, x :: pa.toList, pa, false, [], t.dom⟩
/-- what __init__ promises: the instance that it is handed holds the datum -/
def liftI (K : PySem.W.Frag) (C : Addr) (sp : PSp) : Sp := fun vs H Q E => ∃ x dx us F pa t ds P, vs = .ref x :: us ∧ H x = some (.ins C dx []) ∧ F x = none ∧ pa ≠ some x ∧ t.obs x = none ∧ Cf K (B0 F pa t H) F pa t [] [] H ∧ RelL K F pa ds us ∧ sp ds t P ∧
  ∀ h d F' pa' t' H', Cf K (BI F pa t H x) F' pa' t' [] [] H' → F' x = none → pa' ≠ some x → t'.obs x = none → H' x = some h → RelO1 K F' pa' d h → P d t' → Q .non H'
section
variable {CX : CXT} {k : Nat} {f Cl' : Addr} {fd : FuncData} {ps : List Str} {sp : PSp} {dvs : List V} {dds : List D} {ds : List Value} {E : XK} {x m : Str} {p apos : Pos}
theorem ev_make (hd : ∀ F pa, RelL K F pa dds dvs) : ∀ σ H Q, tnOf K B (dCall sp dds as) σ H Q → tMake Cl' (liftI K Cl' sp) dvs E (taOf K B as) σ H Q := fun σ H Q ⟨F, pa, t, env, P, W, h, k⟩ =>
  ⟨F, pa, t, env, _, W, h, fun vs xs F1 pa1 t1 H1 g1 W1 r1 q1 x dx hx hdx hne => by
    have hx2 : upd H1 dx (.own x) x = none := by rw [upd_ne (Ne.symm hne)]; exact hx
    have W2 := (W1.loose (.own x) hdx).loose (.ins Cl' dx []) hx2
    obtain ⟨hF, hB, _⟩ := W1.fresh hx
    have nw := W1.nw hx
    have up : ∀ a o, H1 a = some o → upd (upd H1 dx (.own x)) x (.ins Cl' dx []) a = some o := fun a o e => by
      rw [upd_ne (ne_of_none e hx), upd_ne (ne_of_none e hdx)]; exact e
    refine ⟨x, dx, _, F1, pa1, t1, xs ++ dds, P, rfl, upd_same, hF, nw.a, nw.o, W2.call, r1.append (hd _ _), q1, fun hh d F' pa' t' H' W' n1 n2 n4 e' r' q' => ⟨rfl, ?_⟩⟩
    have W3 : Cf K (B0 F1 pa1 t1 H1) F' pa' t' [] [] H' := by
      refine ⟨rfl, W'.sub, W'.bas, fun a o e hp ho => ?_, fun a o e => ?_, fun a ha => ?_, W'.val, fun i d e => by simp at e, W'.sep, fun a e => ?_, W'.pnn, TabF.nil, W'.ntb, fun a d q => ?_, W'.obx, fun i d a e => by simp at e⟩
      · refine W'.frm a o (up a o e) (fun z => ?_) ho
        rcases List.mem_cons.mp z with z | z
        · exact absurd z (ne_of_none e hx)
        · exact hp z
      · rcases W'.new a o e with z | z
        · exact .inl z
        · refine .inr ?_
          cases q : H1 a with
          | none => exact q
          | some u => rw [show (BI F1 pa1 t1 (upd (upd H1 dx (.own x)) x (.ins Cl' dx [])) x).H a = upd (upd H1 dx (.own x)) x (.ins Cl' dx []) a from rfl, up a u q] at z; cases z
      · exact W'.exl a (List.mem_cons_of_mem _ ha)
      · obtain ⟨h1, h2, h3⟩ := W'.pen a e
        refine ⟨h1, h2, ?_⟩
        rcases h3 with z | z
        · rcases List.mem_cons.mp z with z | z
          · exact absurd (by rw [e, z]) n2
          · exact .inl z
        · refine .inr ?_
          cases q : H1 a with
          | none => exact q
          | some u => rw [show (BI F1 pa1 t1 (upd (upd H1 dx (.own x)) x (.ins Cl' dx [])) x).H a = upd (upd H1 dx (.own x)) x (.ins Cl' dx []) a from rfl, up a u q] at z; cases z
      · obtain ⟨h1, h2, h3, h4, h5⟩ := W'.obs a d q
        refine ⟨h1, h2, h3, ?_, h5⟩
        rcases h4 with z | z
        · exact .inl z
        · refine .inr ?_
          cases q : H1 a with
          | none => exact q
          | some u => rw [show (BI F1 pa1 t1 (upd (upd H1 dx (.own x)) x (.ins Cl' dx [])) x).H a = upd (upd H1 dx (.own x)) x (.ins Cl' dx []) a from rfl, up a u q] at z; cases z
    obtain ⟨g, W4⟩ := W1.after W3
    exact k x hh d F' pa' t' H' (g1.trans g) W4 ⟨n1, hB, n2, nw.s, n4⟩ e' r' q'⟩
theorem q_make (M : Mk X.K Cl' f) (F : FnOk X.prog X.w X.K X.mg X.base CX k f fd ps (liftI X.K Cl' sp)) (hr : Room (k + 1) X.A) (hg : Gl X x) (hm : X.mg x = some (.ref Cl')) (hb : Binds X.K fd ps ds) (hd : Vals dvs ds) (hD : ∀ F pa, RelL X.K F pa dds dvs) (hx : Passes CX X E)
    (ha : QA X B (e :: es) as) (hdb : (x == ("__debug__" : Str)) = false := by decide) (he : starEach (e :: es) X.env = (false, eval e X.env) :: starEach es X.env := by rfl) (hpl : (backTo pos (starEach es X.env)).any (·.1) = false := by rfl) :
    QN X B (.Call (.Name x p) (e :: es) [] pos) (dCall sp dds as) := PE.imp (pe_make M F hr hg hm hb hd hx ha hdb he hpl) (ev_make hD)
/-- self.f = e -/
theorem putF_new {f : Str} {v : V} : ∀ {fs : List (Str × V)}, fs.lookup f = none → putF f v fs = fs ++ [(f, v)]
  | [], _ => rfl
  | (g, y) :: r, h => by
    have hne : ¬ g = f := by
      rintro rfl
      simp [List.lookup] at h
    have h2 : r.lookup f = none := by
      have : (f == g) = false := by simpa using fun z => hne z.symm
      simpa [List.lookup, this] using h
    show (if g = f then _ else _) = _
    rw [if_neg hne, putF_new h2]
    rfl
theorem zip_snoc {α β : Type} : ∀ {a : List α} {b : List β} {x : α} {y : β}, a.length = b.length → (a ++ [x]).zip (b ++ [y]) = a.zip b ++ [(x, y)]
  | [], [], _, _, _ => rfl
  | _ :: _, _ :: _, _, _, h => by
    simp only [List.cons_append, List.zip_cons_cons]
    rw [zip_snoc (by simpa using h)]
  | [], _ :: _, _, _, h => by simp at h
  | _ :: _, [], _, _, h => by simp at h
theorem relL_snoc {F : Hp} {pa : Option Addr} {d : D} {v : V} (h : RelD K F pa d v) : ∀ {l : List D} {vs : List V}, RelL K F pa l vs → RelL K F pa (l ++ [d]) (vs ++ [v])
  | [], vs, r => by
    have e : vs = [] := by unfold RelL at r; exact r
    subst e
    exact RelL.cons h (by unfold RelL; rfl)
  | x :: l, vs, r => by
    obtain ⟨v1, vr, rfl, r1, r2⟩ := r.inv
    exact RelL.cons r1 (relL_snoc h r2)
end
end
end Q
/-! QH12 -/
namespace Q
open PySem L2 PyProof.Rows
section
variable {K : PySem.W.Frag} {F F' : Hp} {pa : Option Addr}
/-! ### without a pen -/
mutual
theorem RelD.un : ∀ (d : D) (v : V), nopen d = true → RelD K F pa d v → RelD K F none d v
  | .non, v, _, h => by unfold RelD at h ⊢; exact h
  | .bl b, v, _, h => by unfold RelD at h ⊢; exact h
  | .int i, v, _, h => by unfold RelD at h ⊢; exact h
  | .str x, v, _, h => by unfold RelD at h ⊢; exact h
  | .ty n, v, _, h => by unfold RelD at h ⊢; exact h
  | .adr a, v, _, h => by unfold RelD at h ⊢; exact h
  | .rp a, v, _, h => by unfold RelD at h ⊢; exact h
  | .pen, v, n, h => by simp [nopen] at n
  | .scr ns, v, _, h => by unfold RelD at h ⊢; exact h
  | .lst l, v, n, h => by
    unfold RelD at h ⊢
    unfold nopen at n
    obtain ⟨a, vs, e, r, q⟩ := h
    exact ⟨a, vs, e, r, RelL.un l vs n q⟩
  | .tup l, v, n, h => by
    unfold RelD at h ⊢
    unfold nopen at n
    obtain ⟨a, vs, e, r, q⟩ := h
    exact ⟨a, vs, e, r, RelL.un l vs n q⟩
  | .dic ks l, v, n, h => by
    unfold RelD at h ⊢
    unfold nopen at n
    obtain ⟨a, vs, e, r, z, q⟩ := h
    exact ⟨a, vs, e, r, z, RelL.un l vs n q⟩
  | .ins C ns l, v, n, h => by
    unfold RelD at h ⊢
    unfold nopen at n
    obtain ⟨a, dx, vs, e, r, z, q⟩ := h
    exact ⟨a, dx, vs, e, r, z, RelL.un l vs n q⟩
theorem RelL.un : ∀ (l : List D) (vs : List V), nopens l = true → RelL K F pa l vs → RelL K F none l vs
  | [], vs, _, h => by unfold RelL at h ⊢; exact h
  | d :: ds, vs, n, h => by
    unfold RelL at h ⊢
    unfold nopens at n
    obtain ⟨v, vr, e, r, q⟩ := h
    have n2 := Bool.and_eq_true_iff.mp n
    exact ⟨v, vr, e, RelD.un d v n2.1 r, RelL.un ds vr n2.2 q⟩
end
mutual
theorem RelD.up : ∀ (d : D) (v : V), RelD K F none d v → RelD K F pa d v
  | .non, v, h => by unfold RelD at h ⊢; exact h
  | .bl b, v, h => by unfold RelD at h ⊢; exact h
  | .int i, v, h => by unfold RelD at h ⊢; exact h
  | .str x, v, h => by unfold RelD at h ⊢; exact h
  | .ty n, v, h => by unfold RelD at h ⊢; exact h
  | .adr a, v, h => by unfold RelD at h ⊢; exact h
  | .rp a, v, h => by unfold RelD at h ⊢; exact h
  | .pen, v, h => by
    unfold RelD at h
    obtain ⟨a, e, _⟩ := h
    cases e
  | .scr ns, v, h => by unfold RelD at h ⊢; exact h
  | .lst l, v, h => by
    unfold RelD at h ⊢
    obtain ⟨a, vs, e, r, q⟩ := h
    exact ⟨a, vs, e, r, RelL.up l vs q⟩
  | .tup l, v, h => by
    unfold RelD at h ⊢
    obtain ⟨a, vs, e, r, q⟩ := h
    exact ⟨a, vs, e, r, RelL.up l vs q⟩
  | .dic ks l, v, h => by
    unfold RelD at h ⊢
    obtain ⟨a, vs, e, r, z, q⟩ := h
    exact ⟨a, vs, e, r, z, RelL.up l vs q⟩
  | .ins C ns l, v, h => by
    unfold RelD at h ⊢
    obtain ⟨a, dx, vs, e, r, z, q⟩ := h
    exact ⟨a, dx, vs, e, r, z, RelL.up l vs q⟩
theorem RelL.up : ∀ (l : List D) (vs : List V), RelL K F none l vs → RelL K F pa l vs
  | [], vs, h => by unfold RelL at h ⊢; exact h
  | d :: ds, vs, h => by
    unfold RelL at h ⊢
    obtain ⟨v, vr, e, r, q⟩ := h
    exact ⟨v, vr, e, RelD.up d v r, RelL.up ds vr q⟩
end
/-! ### the state of a def that makes: the instance at x, of its own -/
theorem RelO1.un : ∀ {d : D} {h : HO}, nopen d = true → RelO1 K F pa d h → RelO1 K F none d h := fun {d h} n r => by
  cases d with
  | lst l => obtain ⟨vs, e, q⟩ := r; exact ⟨vs, e, RelL.un l vs (by simpa [nopen] using n) q⟩
  | dic ks l => obtain ⟨vs, e, z, q⟩ := r; exact ⟨vs, e, z, RelL.un l vs (by simpa [nopen] using n) q⟩
  | ins C ns l => obtain ⟨dx, vs, e, z, q⟩ := r; exact ⟨dx, vs, e, z, RelL.un l vs (by simpa [nopen] using n) q⟩
  | _ => exact r.elim
theorem RelO1.up : ∀ {d : D} {h : HO}, RelO1 K F none d h → RelO1 K F pa d h := fun {d h} r => by
  cases d with
  | lst l => obtain ⟨vs, e, q⟩ := r; exact ⟨vs, e, RelL.up l vs q⟩
  | dic ks l => obtain ⟨vs, e, z, q⟩ := r; exact ⟨vs, e, z, RelL.up l vs q⟩
  | ins C ns l => obtain ⟨dx, vs, e, z, q⟩ := r; exact ⟨dx, vs, e, z, RelL.up l vs q⟩
  | _ => exact r.elim
end
def BX (O : Addr → Prop) (F : Hp) (H : Hp) (x : Addr) : Bs := ⟨F, H, [x], none, false, [], O⟩
structure Is (K : PySem.W.Frag) (O : Addr → Prop) (F0 H0 : Hp) (x Cl' : Addr) (ns : List Str) (l : List D) (F : Hp) (t : Ts) (env : En) (σ : L2.St) (H : Hp) : Prop where
  c : Cf K (BX O F0 H0 x) F none t env σ H
  nov : ∀ (i : Nat) (d : D), env[i]? ≠ some (Sl.own d)
  ins : ∃ dx vs, H x = some (.ins Cl' dx (ns.zip vs)) ∧ ns.length = vs.length ∧ RelL K F none l vs
  f : F x = none
  s : σ[0]? = some (some (V.ref x))
  o : t.obs x = none
section
variable {K : PySem.W.Frag} {O : Addr → Prop} {F0 H0 : Hp} {x Cl' : Addr} {ns : List Str} {l : List D} {F F' : Hp} {t t' : Ts} {env : En} {σ : L2.St} {H H' : Hp} {B : Bs} {pa : Option Addr}
theorem Cf.here (C : Cf K B F pa t env σ H) (n : ∀ (i : Nat) (d : D), env[i]? ≠ some (Sl.own d)) : Cf K (B0 F pa t H) F pa t env σ H := by
  have C2 := C.call
  exact ⟨C.len, C2.sub, C2.bas, C2.frm, C2.new, C2.exl, C.val, fun i d e => absurd e (n i d), fun i j d e a q => absurd q (n i d), C2.pen, C2.pnn, C2.tab, C2.ntb, C2.obs, C2.obx, fun i d a e => absurd e (n i d)⟩
theorem Is.step (S : Is K O F0 H0 x Cl' ns l F t env σ H) {pa' : Option Addr} (C : Cf K (B0 F none t H) F' pa' t' env σ H') : pa' = none ∧ Is K O F0 H0 x Cl' ns l F' t' env σ H' := by
  have hp : pa' = none := C.pnn
  subst hp
  obtain ⟨g, C2⟩ := S.c.after C.nil
  obtain ⟨dx, vs, h1, h2, h3⟩ := S.ins
  refine ⟨rfl, C2, S.nov, ⟨dx, vs, C.frm x _ h1 (by simp [B0]) (fun ⟨d, z⟩ => by rw [S.o] at z; cases z), h2, RelL.mono g l vs h3⟩, ?_, S.s, ?_⟩
  · cases q : F' x with
    | none => rfl
    | some o =>
      rcases C.new x o q with ⟨o', z⟩ | z
      · rw [show (B0 F none t H).F x = F x from rfl, S.f] at z; cases z
      · rw [show (B0 F none t H).H x = H x from rfl, h1] at z; cases z
  · cases q : t'.obs x with
    | none => rfl
    | some d' =>
      rcases (C.obs x d' q).2.2.2.1 with ⟨d0, z⟩ | z
      · rw [S.o] at z; cases z
      · rw [show (B0 F none t H).H x = H x from rfl, h1] at z; cases z
theorem Is.put (S : Is K O F0 H0 x Cl' ns l F t env σ H) {ns' : List Str} {l' : List D} {dx : Addr} {vs : List V} (h2 : ns'.length = vs.length) (h3 : RelL K F none l' vs) : Is K O F0 H0 x Cl' ns' l' F t env σ (upd H x (.ins Cl' dx (ns'.zip vs))) := by
  have C := S.c
  have nx : ∀ {a : Addr} {o : HO}, F a = some o → a ≠ x := fun e => ne_of_none e S.f
  refine ⟨⟨C.len, fun a o e => by rw [upd_ne (nx e)]; exact C.sub a o e, C.bas, fun a o e hp ho => ?_, C.new, fun a ha => ?_, C.val, fun i d e => absurd e (S.nov i d), fun i j d e a q => absurd q (S.nov i d), fun a e => (by cases e), C.pnn, TabF.nil, C.ntb, fun a d q => by
    obtain ⟨h1, ⟨u, h2, h3⟩, h4⟩ := C.obs a d q
    refine ⟨h1, ⟨u, ?_, h3⟩, h4⟩
    rw [upd_ne ?_]
    · exact h2
    · rintro rfl
      rw [S.o] at q; exact (nomatch q), C.obx, fun i d a e => absurd e (S.nov i d)⟩, S.nov, ⟨dx, vs, upd_same, h2, h3⟩, S.f, S.s, S.o⟩
  · have : a ≠ x := fun z => hp (by rw [z]; exact List.mem_singleton.mpr rfl)
    rw [upd_ne this]; exact C.frm a o e hp ho
  · have : a = x := List.mem_singleton.mp ha
    rw [this]; exact ⟨_, upd_same⟩
end
/-! ### its statements -/
def tiS (K : PySem.W.Frag) (Cl' : Addr) (ds : IS) : TS := fun D σ H => ∃ O F0 H0 x ns l F t env k, Is K O F0 H0 x Cl' ns l F t env σ H ∧ ds k ns l env t ∧
  ∀ ns' l' F' t' env' σ' H', Is K O F0 H0 x Cl' ns' l' F' t' env' σ' H' → k ns' l' env' t' → D.nx σ' H'
section
variable {X : Cx} {Cl' : Addr} {st : Stmt} {sts : List Stmt} {a b : IS} {c o value : Expr} {dt : DT} {da : DE} {pos pos' : Pos}
theorem i_cons (h1 : PS X st (tiS X.K Cl' a)) (h2 : PSs X sts (tiS X.K Cl' b)) : PSs X (st :: sts) (tiS X.K Cl' (iThen a b)) :=
  PSs.imp (pss_cons h1 h2) fun D σ H ⟨O, F0, H0, x, ns, l, F, t, env, k, S, h, R⟩ => ⟨O, F0, H0, x, ns, l, F, t, env, _, S, h, fun ns' l' F' t' env' σ' H' S' h' => ⟨O, F0, H0, x, ns', l', F', t', env', k, S', h', R⟩⟩
theorem i_guard (hc : ∀ B, QT X B c dt) : PS X (.If c sts [] pos) (tiS X.K Cl' (iGuard dt)) :=
  PS.imp (ps_if (tc := ttU X.K dt) ⟨fun pins s σ H Q I ⟨B, q⟩ => (hc B).run pins s σ H Q I q⟩ pss_never pss_nil) fun D σ H ⟨O, F0, H0, x, ns, l, F, t, env, k, S, h, R⟩ =>
    ⟨B0 F none t H, F, none, t, env, _, S.c.here S.nov, h, fun kb F' pa' t' H' g C q => by
      obtain ⟨rfl, S'⟩ := S.step C
      cases kb with
      | true => exact False.elim q
      | false => exact R ns l F' t' env σ H' S' q⟩
theorem i_set {f : Str} (h0 : PE X o (tVar 0)) (hv : ∀ B, QE X B value da) (cl : Cls X.K Cl') (na : NoAttr X.K Cl' f) (hs : swapsWith value (some (.Attribute o f pos')) pos.line X.env = pure false := by rfl) :
    PS X (.Assign [.Attribute o f pos'] value pos) (tiS X.K Cl' (iSet f da)) :=
  PS.imp (ps_fld h0 (pe_U hv) hs) fun D σ H ⟨O, F0, H0, x, ns, l, F, t, env, k, S, h, R⟩ =>
    ⟨B0 F none t H, F, none, t, env, _, S.c.here S.nov, h, fun v d F' pa' t' H' g C r q => by
      obtain ⟨rfl, S'⟩ := S.step C
      obtain ⟨⟨hn, hl⟩, q⟩ := q
      obtain ⟨dx, vs, e1, l1, r1⟩ := S'.ins
      refine ⟨_, S'.s, x, Cl', dx, _, rfl, e1, cl, na, by rw [List.length_zip]; omega, ?_⟩
      rw [putF_new (zip_none hn), ← zip_snoc l1]
      exact R _ _ F' t' env σ _ (S'.put (by simp [l1]) (relL_snoc r r1)) q⟩
/-! ### self.sums -/
theorem sumsOf_snoc : ∀ (bs : List Int) (s b : Int), sumsOf s (bs ++ [b]) = sumsOf s bs ++ [(sumsOf s bs).getLastD s + b - 1]
  | [], s, b => rfl
  | c :: bs, s, b => by
    show (s + c - 1) :: sumsOf (s + c - 1) (bs ++ [b]) = _
    rw [sumsOf_snoc bs (s + c - 1) b]
    show _ = (s + c - 1) :: sumsOf (s + c - 1) bs ++ [((s + c - 1) :: sumsOf (s + c - 1) bs).getLastD s + b - 1]
    rw [List.getLastD_cons]
    rfl
theorem sumsOf_len : ∀ (bs : List Int) (s : Int), (sumsOf s bs).length = bs.length
  | [], _ => rfl
  | c :: bs, s => by
    show (sumsOf (s + c - 1) bs).length + 1 = bs.length + 1
    rw [sumsOf_len bs]
/-- the loop's state: p the list, x the instance -/
structure Ls (K : PySem.W.Frag) (F Hs : Hp) (x p Cl' dx : Addr) (ns : List Str) (vs : List V) (l : List D) (t : Ts) (env : En) (σ : L2.St) (H : Hp) (cur : List Int) : Prop where
  len : env.length = σ.length
  sub : ∀ a o, F a = some o → H a = some o
  frm : ∀ a o, Hs a = some o → a ≠ x → a ≠ p → H a = some o
  val : ∀ (i : Nat) (d : D), env[i]? = some (Sl.val d) → ∃ v : V, σ[i]? = some (some v) ∧ RelD K F none d v
  nov : ∀ (i : Nat) (d : D), env[i]? ≠ some (Sl.own d)
  s : σ[0]? = some (some (V.ref x))
  hx : H x = some (.ins Cl' dx ((ns ++ [("sums" : Str)]).zip (vs ++ [.ref p])))
  hp : H p = some (.lst (cur.map V.int))
  ls : ns.length = vs.length
  rl : RelL K F none l vs
  fx : F x = none
  fp : F p = none
  xp : x ≠ p
  nt : ∀ a ps, F a ≠ some (.tbl ps)
section
variable {K : PySem.W.Frag} {F Hs : Hp} {x p dx : Addr} {ns : List Str} {vs : List V} {l : List D} {t : Ts} {env : En} {σ : L2.St} {H : Hp} {cur : List Int}
/-- the state as it is seen by a reading: all frozen -/
theorem Ls.seen (S : Ls K F Hs x p Cl' dx ns vs l t env σ H cur) : ∃ F2, Gr F none F2 none ∧ Cf K (B0 F2 none t.bare H) F2 none t.bare (env.set 0 (.val (.ins Cl' (ns ++ [("sums" : Str)]) (l ++ [.lst (cur.map .int)])))) σ H := by
  let F2 : Hp := upd (upd F p (.lst (cur.map V.int))) x (.ins Cl' dx ((ns ++ [("sums" : Str)]).zip (vs ++ [.ref p])))
  have g1 : Gf F (upd F p (.lst (cur.map V.int))) := Gf.upd S.fp
  have fx2 : (upd F p (.lst (cur.map V.int))) x = none := by rw [upd_ne S.xp]; exact S.fx
  have g2 : Gf (upd F p (.lst (cur.map V.int))) F2 := Gf.upd fx2
  have g : Gr F none F2 none := ⟨fun a o e => g2 a o (g1 a o e), rfl⟩
  have ep : F2 p = some (.lst (cur.map V.int)) := g2 _ _ upd_same
  have ex : F2 x = some (.ins Cl' dx ((ns ++ [("sums" : Str)]).zip (vs ++ [.ref p]))) := upd_same
  refine ⟨F2, g, ⟨by simp [S.len], fun a o e => ?_, fun _ _ e => e, fun _ _ e _ _ => e, fun a o e => .inl ⟨o, e⟩, fun a ha => ?_, fun i d e => ?_, fun i d e => ?_, fun i j d e a q => ?_, fun a e => ?_, rfl, TabF.nil, fun a ps e => ?_, fun a d e => (nomatch e), fun a ⟨d, e⟩ => (nomatch e), fun i d a e _ => rfl⟩⟩
  rotate_right
  · by_cases h1 : a = x
    · subst h1; rw [ex] at e; cases e
    · by_cases h2 : a = p
      · subst h2; rw [ep] at e; cases e
      · have : F2 a = F a := by show upd (upd F p _) x _ a = _; rw [upd_ne h1, upd_ne h2]
        rw [this] at e; exact S.nt a ps e
  · by_cases h1 : a = x
    · subst h1; rw [ex] at e; cases e; exact S.hx
    · by_cases h2 : a = p
      · subst h2; rw [ep] at e; cases e; exact S.hp
      · have : F2 a = F a := by show upd (upd F p _) x _ a = _; rw [upd_ne h1, upd_ne h2]
        rw [this] at e; exact S.sub a o e
  · simp [B0] at ha
  · rcases get_set e with ⟨rfl, z⟩ | ⟨ne, z⟩
    · cases z
      refine ⟨.ref x, S.s, ?_⟩
      unfold RelD
      refine ⟨x, dx, _, rfl, ex, by simp [S.ls], relL_snoc ?_ (RelL.mono g l vs S.rl)⟩
      unfold RelD
      exact ⟨p, _, rfl, ep, RelL.of_ints cur⟩
    · obtain ⟨v, h1, h2⟩ := S.val i d z
      exact ⟨v, h1, RelD.mono g d v h2⟩
  · rcases get_set e with ⟨_, z⟩ | ⟨_, z⟩
    · cases z
    · exact absurd z (S.nov i d)
  · rcases get_set q with ⟨_, z⟩ | ⟨_, z⟩
    · cases z
    · exact absurd z (S.nov i d)
  · cases e
theorem Ls.kept (S : Ls K F Hs x p Cl' dx ns vs l t env σ H cur) {H' : Hp} (g : Gf H H') : Ls K F Hs x p Cl' dx ns vs l t env σ H' cur :=
  ⟨S.len, fun a o e => g _ _ (S.sub a o e), fun a o e h1 h2 => g _ _ (S.frm a o e h1 h2), S.val, S.nov, S.s, g _ _ S.hx, g _ _ S.hp, S.ls, S.rl, S.fx, S.fp, S.xp, S.nt⟩
theorem Ls.setj (S : Ls K F Hs x p Cl' dx ns vs l t env σ H cur) {j : Nat} (hj : j ≠ 0) (b : Int) : Ls K F Hs x p Cl' dx ns vs l t (env.set j (.val (.int b))) (σ.set j (some (.int b))) H cur := by
  refine ⟨by simp [S.len], S.sub, S.frm, fun i d e => ?_, fun i d e => ?_, by rw [List.getElem?_set_ne hj]; exact S.s, S.hx, S.hp, S.ls, S.rl, S.fx, S.fp, S.xp, S.nt⟩
  · rcases get_set e with ⟨rfl, z⟩ | ⟨ne, z⟩
    · cases z
      have hi : j < env.length := by simpa using (List.getElem?_eq_some_iff.mp e).1
      exact ⟨.int b, by rw [List.getElem?_set_self (by rw [← S.len]; exact hi)], by unfold RelD; rfl⟩
    · obtain ⟨v, h1, h2⟩ := S.val i d z
      exact ⟨v, by rw [List.getElem?_set_ne ne]; exact h1, h2⟩
  · rcases get_set e with ⟨_, z⟩ | ⟨_, z⟩
    · cases z
    · exact S.nov i d z
theorem Ls.app (S : Ls K F Hs x p Cl' dx ns vs l t env σ H cur) (z : Int) : Ls K F Hs x p Cl' dx ns vs l t env σ (upd H p (.lst ((cur ++ [z]).map V.int))) (cur ++ [z]) :=
  ⟨S.len, fun a o e => by rw [upd_ne (ne_of_none e S.fp)]; exact S.sub a o e, fun a o e h1 h2 => by rw [upd_ne h2]; exact S.frm a o e h1 h2, S.val, S.nov, S.s, by rw [upd_ne S.xp]; exact S.hx, upd_same, S.ls, S.rl, S.fx, S.fp, S.xp, S.nt⟩
end
theorem intsD_map : ∀ bs : List Int, Q.intsD (bs.map .int) = some bs
  | [] => rfl
  | c :: r => by simp [Q.intsD, intsD_map r]
theorem set_self {α : Type} (l : List α) (i : Nat) : l = [] ∨ ∃ s, l.set i s = l := by
  by_cases h : i < l.length
  · exact .inr ⟨l[i], by simp⟩
  · cases l with
    | nil => exact .inl rfl
    | cons a r => exact .inr ⟨a, List.set_eq_of_length_le (by omega)⟩
theorem zip_look {α : Type} {f : Str} : ∀ {a : List Str} {b : List α} {y : α}, a.length = b.length → a.contains f = false → ((a ++ [f]).zip (b ++ [y])).lookup f = some y
  | [], [], y, _, _ => by simp [List.lookup]
  | g :: a, _ :: b, y, h, n => by
    have n2 : (f == g) = false ∧ a.contains f = false := by
      simp only [List.contains_cons, Bool.or_eq_false_iff] at n
      exact n
    show List.lookup f ((g, _) :: (a ++ [f]).zip (b ++ [y])) = _
    rw [List.lookup_cons, n2.1]
    exact zip_look (by simpa using h) n2.2
  | [], _ :: _, _, h, _ => by simp at h
  | _ :: _, [], _, h, _ => by simp at h
section
variable {o iter ecall tg : Expr} {de : DE} {ib j : Nat} {p1 p2 p3 p4 p5 : Pos}
theorem i_sums (h0 : PE X o (tVar 0)) (hb : PE X iter (tVar ib)) (hg : PG X tg (L2.gName j)) (hap : PE X ecall (tBM X.K "list" rAppend (tFld X.K (tVar 0) "sums") (tCons (teU X.K de) tNil))) (hde : SumsE Cl' j de) (cl : Cls X.K Cl') (na : NoAttr X.K Cl' "sums")
    (hpo : PassesOwn (model X.prog X.w) X.A X.env X.xe) (hc : X.calm = true) (hj : j ≠ 0) (hs : swapsWith (.List [] p1) (some (.Attribute o "sums" p2)) p3.line X.env = pure false := by rfl)
    (hsE : swapsWith ecall none p4.line X.env = pure false := by rfl) (hsF : ∀ x, foldedSetIterable iter X.env x = pure x := by intro _; rfl) :
    PSs X [.Assign [.Attribute o "sums" p2] (.List [] p1) p3, .For tg iter [.Expr ecall p4] [] p5] (tiS X.K Cl' (iSums ib j)) :=
  PSs.imp (pss_cons (ps_fld h0 (pe_lst pa_nil) hs) (pss_one (ps_for hpo hc (pi_any hb) hg (pss_one (ps_expr hap hsE)) hsF))) fun D σ H ⟨O, F0, H0, x, ns, l, F, t, env, k, S, h, R⟩ => by
    -- the numbers
    have hv : ∃ bs : List Int, ∃ a : Addr, σ[ib]? = some (some (V.ref a)) ∧ (F a = some (.lst (bs.map V.int)) ∨ F a = some (.tup (bs.map V.int))) ∧ bs.length ≤ 1000 ∧ (ns.contains ("sums" : Str) = false ∧ ns.length < 900 ∧ j < env.length) ∧ ∀ s, k (ns ++ [("sums" : Str)]) (l ++ [.lst ((sumsOf 0 bs).map .int)]) (env.set j s) t := by
      have ri : ∀ (bs : List Int) (us : List V), RelL X.K F none (bs.map .int) us → us = bs.map V.int := fun bs us r => RelL.intsD r (intsD_map bs)
      unfold iSums at h
      split at h
      · rename_i m e
        obtain ⟨bs, rfl, h1, h2, h3⟩ := h
        obtain ⟨v, e1, r⟩ := S.c.val _ _ e
        unfold RelD at r
        obtain ⟨a, us, rfl, e2, r2⟩ := r
        rw [ri bs us r2] at e2
        exact ⟨bs, a, e1, .inl e2, h1, h2, h3⟩
      · rename_i m e
        obtain ⟨bs, rfl, h1, h2, h3⟩ := h
        obtain ⟨v, e1, r⟩ := S.c.val _ _ e
        unfold RelD at r
        obtain ⟨a, us, rfl, e2, r2⟩ := r
        rw [ri bs us r2] at e2
        exact ⟨bs, a, e1, .inr e2, h1, h2, h3⟩
      · exact h.elim
    obtain ⟨bs, ab, hib, hab, hbl, ⟨hns, hnl, hjl⟩, hk⟩ := hv
    obtain ⟨dx, vs, hx, hlen, rl⟩ := S.ins
    refine ⟨Nat.zero_le _, fun p hp0 => ⟨.ref x, S.s, x, Cl', dx, _, rfl, by rw [upd_ne (ne_of_none hx hp0)]; exact hx, cl, na, by rw [List.length_zip]; omega, ?_⟩⟩
    rw [putF_new (zip_none hns), ← zip_snoc hlen]
    have xp : x ≠ p := ne_of_none hx hp0
    have fp : F p = none := (S.c.fresh hp0).1
    have L0 : Ls X.K F (upd (upd H p (.lst [])) x (.ins Cl' dx ((ns ++ [("sums" : Str)]).zip (vs ++ [.ref p])))) x p Cl' dx ns vs l t env σ (upd (upd H p (.lst [])) x (.ins Cl' dx ((ns ++ [("sums" : Str)]).zip (vs ++ [.ref p])))) [] :=
      ⟨S.c.len, fun a u e => by rw [upd_ne (ne_of_none e S.f), upd_ne (ne_of_none e fp)]; exact S.c.sub a u e, fun a u e _ _ => e, S.c.val, S.nov, S.s, upd_same, by rw [upd_ne (Ne.symm xp)]; exact upd_same, hlen, rl, S.f, fp, xp, S.c.ntb⟩
    generalize hHs : upd (upd H p (.lst [])) x (.ins Cl' dx ((ns ++ [("sums" : Str)]).zip (vs ++ [.ref p]))) = Hs at L0 ⊢
    have hfin : ∀ σ' H' s, Ls X.K F Hs x p Cl' dx ns vs l t (env.set j s) σ' H' (sumsOf 0 bs) → D.nx σ' H' := fun σ' H' s L => by
      refine R _ _ (upd F p (.lst ((sumsOf 0 bs).map V.int))) t (env.set j s) σ' H' ⟨⟨L.len, fun a u e => ?_, fun a u e => ?_, fun a u e hx' ho => ?_, fun a u e => ?_, fun a ha => ?_, fun i d e => ?_, fun i d e => absurd e (L.nov i d), fun i _ d _ _ q => absurd q (L.nov i d), fun a e => (by cases e), rfl, TabF.nil, fun a ps e => by
        by_cases ha : a = p
        · subst ha; rw [upd_same] at e; simp at e
        · rw [upd_ne ha] at e; exact S.c.ntb a ps e, fun a d q => by
        obtain ⟨h1, ⟨u, h2, h3⟩, h4⟩ := S.c.obs a d q
        have hax : a ≠ x := fun z => by rw [z, S.o] at q; simp at q
        have hap' : a ≠ p := ne_of_none h2 hp0
        refine ⟨by rw [upd_ne hap']; exact h1, ⟨u, L.frm a u ?_ hax hap', RelO1.mono ⟨Gf.upd fp, rfl⟩ d u h3⟩, h4⟩
        rw [← hHs, upd_ne hax, upd_ne hap']; exact h2, S.c.obx, fun i d a e => absurd e (L.nov i d)⟩, L.nov, ⟨dx, _, L.hx, by simp [hlen], ?_⟩, by rw [upd_ne xp]; exact S.f, L.s, S.o⟩ (hk s)
      · by_cases ha : a = p
        · subst ha; rw [upd_same] at e; cases e; exact L.hp
        · rw [upd_ne ha] at e; exact L.sub a u e
      · exact Gf.upd fp _ _ (S.c.bas a u e)
      · have h1 := S.c.frm a u e hx' ho
        have hax : a ≠ x := fun z => hx' (by rw [z]; exact List.mem_singleton.mpr rfl)
        have hap' : a ≠ p := ne_of_none h1 hp0
        refine L.frm a u ?_ hax hap'
        rw [← hHs, upd_ne hax, upd_ne hap']; exact h1
      · by_cases ha : a = p
        · subst ha; exact .inr (S.c.fresh hp0).2.1
        · rw [upd_ne ha] at e; exact S.c.new a u e
      · rw [List.mem_singleton.mp ha]; exact ⟨_, L.hx⟩
      · obtain ⟨v, h1, h2⟩ := L.val i d e
        exact ⟨v, h1, RelD.mono ⟨Gf.upd fp, rfl⟩ d v h2⟩
      · refine relL_snoc ?_ (RelL.mono ⟨Gf.upd fp, rfl⟩ l vs rl)
        unfold RelD
        exact ⟨p, _, rfl, upd_same, RelL.of_ints _⟩
    have ne0 : env ≠ [] := fun z => by
      have := S.c.len
      rw [z] at this
      have h2 := S.s
      have : σ = [] := List.eq_nil_of_length_eq_zero (by simpa using this.symm)
      rw [this] at h2; cases h2
    -- the loop
    have hloop : ∀ J, ItOk X.K J (bs.map .int) F none → ∃ W : Nat → Nat → L2.St → Hp → Prop, (∃ m, W 0 m σ Hs) ∧ ∀ i m σ H, W i m σ H →
        (J.stop i H ∧ D.nx σ H) ∨ (J.go i H ∧ ∃ N : L2.St → Hp → Prop, (∀ σ' H', N σ' H' → ∃ m', m' < m ∧ W (i + 1) m' σ' H') ∧ ∀ x H', J.yld i H x H' → L2.gName j x σ H' fun σ2 H2 => tDrop (tBM X.K "list" rAppend (tFld X.K (tVar 0) "sums") (tCons (teU X.K de) tNil)) { D with nx := N, ct := N, bk := D.nx } σ2 H2) := by
      intro J iok
      refine ⟨fun i m σ' H' => m = bs.length - i ∧ i ≤ bs.length ∧ ∃ s, Ls X.K F Hs x p Cl' dx ns vs l t (env.set j s) σ' H' (sumsOf 0 (bs.take i)), ?_, ?_⟩
      · rcases set_self env j with z | ⟨s, hs'⟩
        · exact absurd z ne0
        · exact ⟨_, rfl, Nat.zero_le _, s, by rw [hs']; exact L0⟩
      · rintro i m σ2 H2 ⟨rfl, hi, s, L⟩
        obtain ⟨F2, g2, C2⟩ := L.seen
        have io := iok _ F2 none t.bare _ σ2 H2 i g2 C2
        by_cases hlt : i < bs.length
        · have hb2 : (bs.map Q.D.int)[i]? = some (.int bs[i]) := by simp [hlt]
          obtain ⟨go, yl⟩ := io.2 _ hb2
          refine .inr ⟨go, fun σ' H' => ∃ m', m' < bs.length - i ∧ (m' = bs.length - (i + 1) ∧ i + 1 ≤ bs.length ∧ ∃ s, Ls X.K F Hs x p Cl' dx ns vs l t (env.set j s) σ' H' (sumsOf 0 (bs.take (i + 1)))), fun σ' H' z => z, fun xv H3 y => ?_⟩
          obtain ⟨gh, F3, _, _, _, rv⟩ := yl xv H3 y
          have exv : xv = .int bs[i] := by unfold RelD at rv; exact rv
          subst exv
          have L2' := (L.kept gh).setj hj bs[i]
          rw [List.set_set] at L2'
          obtain ⟨F4, _, C4⟩ := L2'.seen
          refine ⟨.ref x, L2'.s, x, Cl', dx, _, .ref p, rfl, L2'.hx, cl, na, zip_look hlen hns, Or.inl ⟨rfl, _, SqL.of L2'.hp⟩, ?_⟩
          refine ⟨B0 F4 none t.bare H3, F4, none, t.bare, _, fun d t2 => d = .int (bs[i] - 1 + (sumsOf 0 (bs.take i)).getLastD 0) ∧ t2 = t.bare, C4, ?_, ?_⟩
          · refine hde _ t.bare _ (ns ++ [("sums" : Str)]) (l ++ [.lst ((sumsOf 0 (bs.take i)).map .int)]) (sumsOf 0 (bs.take i)) bs[i] ?_ ?_ ?_ ⟨rfl, rfl⟩
            · rw [List.getElem?_set_self (by simp; omega)]
            · exact zip_look (hlen.trans (RelL.len rl)) hns
            · rw [List.getElem?_set_ne (Ne.symm hj), List.getElem?_set_self hjl]
          · rintro v d F5 pa5 t5 H5 g5 C5 r5 ⟨rfl, rfl⟩
            have ev : v = .int (bs[i] - 1 + (sumsOf 0 (bs.take i)).getLastD 0) := by unfold RelD at r5; exact r5
            subst ev
            have gh5 : Gf H3 H5 := fun a u e => C5.frm a u e (by simp [B0]) (fun ⟨d, z⟩ => by cases z)
            have L3 := L2'.kept gh5
            refine ⟨p, _, _, rfl, rfl, L3.hp, ?_, ?_⟩
            · simp only [List.length_map, sumsOf_len, List.length_take]
              unfold sizeLine
              omega
            · have L4 := L3.app (bs[i] - 1 + (sumsOf 0 (bs.take i)).getLastD 0)
              rw [List.map_append] at L4
              rw [show (sumsOf 0 (bs.take i)) ++ [bs[i] - 1 + (sumsOf 0 (bs.take i)).getLastD 0] = sumsOf 0 (bs.take (i + 1)) from ?_] at L4
              · refine ⟨bs.length - (i + 1), by omega, rfl, hlt, .val (.int bs[i]), ?_⟩
                exact L4
              · rw [List.take_add_one, List.getElem?_eq_getElem hlt]
                show _ = sumsOf 0 (bs.take i ++ [bs[i]])
                rw [sumsOf_snoc]
                refine congrArg (fun z => _ ++ [z]) ?_
                omega
        · have e : i = bs.length := by omega
          subst e
          rw [List.take_length] at L
          exact .inl ⟨io.1 (by simp), hfin _ _ _ L⟩
    rcases hab with hab | hab
    · refine ⟨.ref ab, hib, ab, rfl, .inl ⟨⟨_, SqL.of (L0.sub _ _ hab)⟩, hloop _ (it_list (SqL.of hab) (RelL.of_ints bs))⟩⟩
    · refine ⟨.ref ab, hib, ab, rfl, .inr ⟨⟨_, SqT.of (L0.sub _ _ hab)⟩, hloop _ (it_tup hab (RelL.of_ints bs))⟩⟩
end
end
end Q
namespace Q
open PySem L2 PyProof.Rows
section
variable {P : Program} {w : World} {K : PySem.W.Frag} {mg : Str → Option Value} {base : Heap}
theorem start0_nov {N : List Str} {ds : List D} (j : Nat) (d : D) : (start0 N ds)[j]? ≠ some (Sl.own d) := fun e => by
  unfold start0 at e
  by_cases hi : j < ds.length
  · rw [List.getElem?_append_left (by simpa using hi), List.getElem?_map] at e
    cases q : ds[j]? with
    | none => rw [q] at e; cases e
    | some y => rw [q] at e; cases e
  · rw [List.getElem?_append_right (by simpa using hi), List.getElem?_replicate] at e
    split at e <;> cases e
theorem is_start {F : Hp} {pa : Option Addr} {t : Ts} {H : Hp} {N : List Str} {n : Str} {ds : List D} {us : List V} {x dx C' : Addr} (C : Cf K (B0 F pa t H) F pa t [] [] H) (hox : t.obs x = none) (np : nopens ds = true) (r : RelL K F pa ds us) (hx : H x = some (.ins C' dx [])) (h1 : F x = none) :
    Is K t.dom F H x C' [] [] F t (startI x N ds) (start (n :: N) (.ref x :: us)) H := by
  have r0 := RelL.un ds us np r
  have C0 : Cf K (B0 F none t H) F none t [] [] H := ⟨rfl, C.sub, C.bas, fun _ _ e _ _ => e, fun a o e => .inl ⟨o, e⟩, fun a ha => by simp [B0] at ha, fun i d e => by simp at e, fun i d e => by simp at e, C.sep, fun a e => (by cases e), rfl, TabF.nil, C.ntb, fun a d q => by
    obtain ⟨h1, ⟨u, h2, h3⟩, h4, h5, h6⟩ := C.obs a d q
    exact ⟨h1, ⟨u, h2, RelO1.un h6 h3⟩, (by simp), h5, h6⟩, fun a e => e, fun i d a e => by simp at e⟩
  have S := cf_start (N := N) C0 r0
  have e2 : start (n :: N) (.ref x :: us) = some (V.ref x) :: start N us := by
    unfold L2.start
    simp
  have nov : ∀ (i : Nat) (d : D), (startI x N ds)[i]? ≠ some (Sl.own d) := fun i d e => by
    cases i with
    | zero => cases e
    | succ i => exact start0_nov i d e
  rw [e2]
  refine ⟨⟨by simpa [startI] using S.len, S.sub, fun _ _ e => e, fun a o e hp _ => e, fun a o e => .inl ⟨o, e⟩, fun a ha => ?_, fun i d e => ?_, fun i d e => absurd e (nov i d), fun i j d e a q1 => absurd q1 (nov i d), fun a e => (by cases e), rfl, TabF.nil, C.ntb, C0.obs, C0.obx, fun i d a e => absurd e (nov i d)⟩, nov, ⟨dx, [], hx, rfl, RelL.nil⟩, h1, rfl, hox⟩
  · rw [List.mem_singleton.mp ha]; exact ⟨_, hx⟩
  · cases i with
    | zero => cases e; exact ⟨.ref x, rfl, by unfold RelD; rfl⟩
    | succ i => exact S.val i d e
theorem fn_okI {x qual : Str} {st : Stmt} {f C' : Addr} {fd : FuncData} {n : Str} {N ps : List Str} {k : Nat} {sp : PSp} {ds : IS} (Fu : Fun K x qual st f fd) (S : FnScope (n :: N) ps (defScope st)) (len : ∀ as t Q, sp as t Q → as.length + 1 = ps.length)
    (hnp : ∀ as t Q, sp as t Q → nopens as = true)
    (hbody : ∀ (cdv : Value) (A : Around) (outer : List PySem.Env) (s : Shared) (H : Hp) (E : XK), Room k (A.deeper (envOfC qual (defScope st) s.heap.objs.size f cdv)) →
      PSs (cxOf CX0 P w K mg base (n :: N) qual (defScope st) f cdv A outer s H E).nox (defBody st) (tiS K C' ds))
    (hds : ∀ as t Q x, sp as t Q → ds (fun ns l env t' => t' = t ∧ Q (.ins C' ns l) t) [] [] (startI x N as) t) : FnOk P w K mg base CX0 (k + 1) f fd ps (liftI K C' sp) := by
  refine Fu.ok S (fun vs H Q E h => ?_) (fun cdv A outer s H vs Q E hr h => ?_)
  · obtain ⟨x, dx, us, F, pa, t, as, R, rfl, hx, h1, h2, h3, C, r, q, _⟩ := h
    rw [List.length_cons, r.len]; exact len as t R q
  · obtain ⟨x, dx, us, F, pa, t, as, R, rfl, hx, h1, h2, hox, C, r, q, fin⟩ := h
    refine ⟨_, hbody cdv A outer s H E hr, t.dom, F, H, x, [], [], F, t, startI x N as, _, is_start C hox (hnp as t R q) r hx h1, hds as t R x q, fun ns' l' F' t' env' σ' H' S' h' => ?_⟩
    obtain ⟨rfl, h'⟩ := h'
    obtain ⟨dx', vs', e1, e2, e3⟩ := S'.ins
    have kp : ∀ a o, H a = some o → a ≠ x → ¬ t'.dom a → H' a = some o := fun a o e ne ho => S'.c.frm a o e (fun z => ne (List.mem_singleton.mp z)) ho
    refine fin _ (.ins C' ns' l') F' pa t' H' ⟨rfl, S'.c.sub, S'.c.bas, fun a o e hp ho => ?_, S'.c.new, fun a ha => ?_, fun i d e => by simp at e, fun i d e => by simp at e, fun i j d e a q => by simp at q, fun a e => ?_, rfl, TabF.nil, S'.c.ntb, fun a d q => by
      obtain ⟨h1, ⟨u, h2, h3⟩, _, h5, h6⟩ := S'.c.obs a d q
      exact ⟨h1, ⟨u, h2, RelO1.up h3⟩, (C.obs a d q).2.2.1, h5, h6⟩, S'.c.obx, fun i d a e => by simp at e⟩ S'.f h2 S'.o e1 ⟨dx', vs', rfl, e2, RelL.up l' vs' e3⟩ h'
    · exact kp a o e (fun z => hp (by rw [z]; exact List.mem_cons_self ..)) ho
    · rcases List.mem_cons.mp ha with z | z
      · rw [z]; exact ⟨_, e1⟩
      · obtain ⟨o, e⟩ := C.exl a z
        by_cases hax : a = x
        · rw [hax]; exact ⟨_, e1⟩
        · by_cases hd : t'.dom a
          · obtain ⟨d, q⟩ := hd
            obtain ⟨_, ⟨u, q2, _⟩, _⟩ := S'.c.obs a d q
            exact ⟨u, q2⟩
          · exact ⟨o, kp a o e hax hd⟩
    · obtain ⟨h3, ⟨h, h4, h5⟩, h6⟩ := C.pen a e
      have hax : a ≠ x := fun z => h2 (by rw [← z]; exact e)
      refine ⟨?_, ⟨h, kp a h h4 hax (fun ⟨d, q⟩ => (C.obs a d q).2.2.1 e), h5.mono S'.c.bas⟩, .inl (List.mem_cons_of_mem _ (mem_pa.mpr e))⟩
      cases q2 : F' a with
      | none => rfl
      | some o =>
        rcases S'.c.new a o q2 with ⟨o', z⟩ | z
        · rw [show (BX t'.dom F H x).F a = F a from rfl, h3] at z; cases z
        · rw [show (BX t'.dom F H x).H a = H a from rfl, h4] at z; cases z
end
end Q
/-! QH13 -/
namespace Q
open PySem L2 PyProof.Rows
section
variable {X : Cx} {B : Bs} {K : PySem.W.Frag} {a b c e o : Expr} {es : List Expr} {pos : Pos} {da db dc : DE} {as : DA}
/-! ### an operation that gives a new object -/
def ROpN (K : PySem.W.Frag) (r : R2) (o : DOp) : Prop := ∀ (B : Bs) F pa t env σ H x y v u P (Q : VK), Cf K B F pa t env σ H → RelX K F pa env σ x v → RelX K F pa env σ y u → o x y P →
  (∀ p h d F' H', Gr F pa F' pa → Cf K B F' pa t env σ H' → Nw B F' pa t env σ p → H' p = some h → RelO1 K F' pa d h → P d → Q (.ref p) H') → r v u H Q
theorem ev2N {r : R2} {o : DOp} (hr : ROpN K r o) : ∀ σ H Q, tnOf K B (dOp o da db) σ H Q → tOp r (tvOf K B da) (tvOf K B db) σ H Q := fun σ H Q ⟨F, pa, t, env, P, C, hd, k⟩ =>
  ⟨F, pa, t, env, _, C, hd, fun v x F1 pa1 t1 H1 g1 C1 r1 q1 => ⟨F1, pa1, t1, env, _, C1, q1, fun u y F2 pa2 t2 H2 g2 C2 r2 q2 =>
    hr B F2 pa2 t2 env σ H2 x y v u _ Q C2 (r1.mono g2) r2 q2 fun p h d F' H' g3 C3 n3 e3 r3 q3 => k p h d F' pa2 t2 H' ((g1.trans g2).trans g3) C3 n3 e3 r3 q3⟩⟩
theorem q_opN {op : Operator} {r : R2} {o : DOp} (ho : OpR X (binaryOp op) r) (hr : ROpN X.K r o) (ha : QV X B a da) (hb : QV X B b db) : QN X B (.BinOp a op b pos) (dOp o da db) := PE.imp (pe_op ho ha hb) (ev2N hr)
theorem ropn_cat : ROpN K rCat oCat := fun B F pa t env σ H x y v u P Q W rx ry h k => by
  cases x with
  | lst l =>
    cases y with
    | lst m =>
      obtain ⟨a, vs, rfl, e1, r1⟩ := rx.lst W
      obtain ⟨b, ws, rfl, e2, r2⟩ := ry.lst W
      exact ⟨a, b, vs, ws, rfl, rfl, e1, e2, by rw [r1.len, r2.len]; exact zle h.1, fun p hp => k p _ (.lst (l ++ m)) F _ (Gr.refl _ _) (W.loose _ hp) (W.nw hp) upd_same ⟨_, rfl, r1.append r2⟩ h.2⟩
    | _ => exact h.elim
  | _ => exact h.elim
theorem relL_rep {F : Hp} {pa : Option Addr} {l : List D} {vs : List V} (r : RelL K F pa l vs) : ∀ n : Nat, RelL K F pa (rep n l) (List.replicate n vs).flatten
  | 0 => RelL.nil
  | n + 1 => by
    unfold rep
    rw [List.replicate_succ, List.replicate_succ, List.flatten_cons, List.flatten_cons]
    exact r.append (relL_rep r n)
theorem ropn_rep : ROpN K rRep oRep := fun B F pa t env σ H x y v u P Q W rx ry h k => by
  cases x with
  | lst l =>
    cases y with
    | int j =>
      obtain ⟨a, vs, rfl, e1, r1⟩ := rx.lst W
      obtain ⟨⟨h1, h2, h3⟩, h4⟩ := h
      exact ⟨a, j, vs, rfl, ry.int W, e1, by omega, by omega, by rw [r1.len]; exact zle h3, fun p hp => k p _ (.lst (rep j.toNat l)) F _ (Gr.refl _ _) (W.loose _ hp) (W.nw hp) upd_same ⟨_, rfl, relL_rep r1 _⟩ h4⟩
    | _ => exact h.elim
  | _ => exact h.elim
/-! ### a whole number among whole numbers -/
/-! ### l.index(x), l.count(x) -/
end
end Q
/-! QH14 -/
namespace Q
open PySem L2 PyProof.Rows
section
variable {X : Cx} {B : Bs} {K : PySem.W.Frag}
theorem PK.imp {kws : List Keyword} {t t' : TA} (h : PK X kws t) (i : ∀ σ H Q, t' σ H Q → t σ H Q) : PK X kws t' := ⟨fun pos pins s σ H Q I q => h.run pos pins s σ H Q I (i σ H Q q)⟩
end
end Q
/-! QH15 -/
namespace Q
open PySem L2 PyProof.Rows
/-! ### enumerate(xs, start=c) -/
end Q
/-! QH16 -/
namespace Q
open PySem L2 PyProof.Rows
end Q
/-! QH17 -/
namespace Q
open PySem L2 PyProof.Rows
section
variable {X : Cx} {B : Bs} {K : PySem.W.Frag} {a b c e o : Expr} {es : List Expr} {pos : Pos} {da db dc : DE} {as : DA}
/-! ### a, b = x, y with new objects -/
def RelM (K : PySem.W.Frag) (B : Bs) (F : Hp) (pa : Option Addr) (t : Ts) (env : En) (σ : L2.St) (H : Hp) : List Bool → List D → List V → Prop
  | [], [], [] => True
  | false :: bs, d :: ds, v :: vs => RelD K F pa d v ∧ RelM K B F pa t env σ H bs ds vs
  | true :: bs, d :: ds, v :: vs => (∃ p h, v = .ref p ∧ Nw B F pa t env σ p ∧ H p = some h ∧ RelO1 K F pa d h ∧ ∀ j : Nat, bs[j]? = some true → vs[j]? ≠ some (.ref p)) ∧ RelM K B F pa t env σ H bs ds vs
  | _, _, _ => False
def tamOf (K : PySem.W.Frag) (B : Bs) (bs : List Bool) (da : DA) : TA := fun σ H Q => ∃ F pa t env P, Cf K B F pa t env σ H ∧ da env t P ∧
  ∀ vs ds F' pa' t' H', Gr F pa F' pa' → Cf K B F' pa' t' env σ H' → RelM K B F' pa' t' env σ H' bs ds vs → P ds t' → Q vs H'
abbrev QM (X : Cx) (B : Bs) (bs : List Bool) (es : List Expr) (da : DA) : Prop := PA X es (tamOf X.K B bs da)
theorem q_mnil : QM X B [] [] dNil := PA.imp pa_nil fun σ H Q ⟨F, pa, t, env, P, C, hd, k⟩ => k [] [] F pa t H (Gr.refl _ _) C True.intro hd
theorem q_mconsV {bs : List Bool} {r : DA} (ha : QE X B e da) (hr : QM X B bs es r) (hs : starEach (e :: es) X.env = (false, eval e X.env) :: starEach es X.env := by rfl) : QM X B (false :: bs) (e :: es) (dCons da r) := PA.imp (pa_cons ha hr hs) fun σ H Q ⟨F, pa, t, env, P, C, hd, k⟩ =>
  ⟨F, pa, t, env, _, C, hd, fun v d F1 pa1 t1 H1 g1 C1 r1 q1 => ⟨F1, pa1, t1, env, _, C1, q1, fun vs ds F2 pa2 t2 H2 g2 C2 r2 q2 => k (v :: vs) (d :: ds) F2 pa2 t2 H2 (g1.trans g2) C2 ⟨RelD.mono g2 d v r1, r2⟩ q2⟩⟩
/-- what stands new for the block's base stands new for ours -/
theorem RelM.up {F1 F2 : Hp} {pa1 pa2 : Option Addr} {t1 t2 : Ts} {env : En} {σ : L2.St} {H1 H2 : Hp} {p : Addr} {h : HO} (C1 : Cf K B F1 pa1 t1 env σ H1) (hp : H1 p = some h) : ∀ {bs : List Bool} {ds : List D} {vs : List V}, RelM K (Bk F1 pa1 t1 env σ H1) F2 pa2 t2 env σ H2 bs ds vs →
    RelM K B F2 pa2 t2 env σ H2 bs ds vs ∧ ∀ j : Nat, bs[j]? = some true → vs[j]? ≠ some (.ref p)
  | [], [], [], _ => ⟨True.intro, fun j hj => by simp at hj⟩
  | false :: bs, d :: ds, v :: vs, r => by
    obtain ⟨r1, r2⟩ := r
    obtain ⟨i1, i2⟩ := RelM.up C1 hp r2
    refine ⟨⟨r1, i1⟩, fun j hj => ?_⟩
    cases j with
    | zero => simp at hj
    | succ j => simpa using i2 j (by simpa using hj)
  | true :: bs, d :: ds, v :: vs, r => by
    obtain ⟨⟨q, h', rfl, n, e, r1, hd⟩, r2⟩ := r
    obtain ⟨i1, i2⟩ := RelM.up C1 hp r2
    have hq : H1 q = none := n.b
    refine ⟨⟨⟨q, h', rfl, ⟨n.f, (C1.fresh hq).2.1, n.a, n.s, n.o⟩, e, r1, hd⟩, i1⟩, fun j hj => ?_⟩
    cases j with
    | zero =>
      intro z
      simp at z
      rw [z, hp] at hq
      cases hq
    | succ j => simpa using i2 j (by simpa using hj)
  | [], [], _ :: _, r => r.elim
  | [], _ :: _, vs, r => by cases vs <;> exact r.elim
  | b :: _, [], vs, r => by cases b <;> cases vs <;> exact r.elim
  | b :: _, _ :: _, [], r => by cases b <;> exact r.elim
theorem q_mconsN {bs : List Bool} {r : DA} (ha : QN X B e da) (hr : ∀ B', QM X B' bs es r) (hs : starEach (e :: es) X.env = (false, eval e X.env) :: starEach es X.env := by rfl) : QM X B (true :: bs) (e :: es) (dCons da r) :=
  PA.imp (pa_cons (t := fun σ H Q => ∃ B', tamOf X.K B' bs r σ H Q) ha ⟨fun pos pins s σ H Q I ⟨B', q⟩ => (hr B').run pos pins s σ H Q I q⟩ hs) fun σ H Q ⟨F, pa, t, env, P, C, hd, k⟩ =>
  ⟨F, pa, t, env, _, C, hd, fun p h d F1 pa1 t1 H1 g1 C1 n1 e1 r1 q1 => ⟨_, F1, pa1, t1, env, _, C1.block [], q1, fun vs ds F2 pa2 t2 H2 g2 C2 r2 q2 => by
    obtain ⟨g3, C3⟩ := C1.join (vs := []) C2 rfl rfl
    have dn : p ∉ (Bk F1 pa1 t1 env σ H1).ex := fun z => by
      rcases List.mem_append.mp z with z | z
      · exact n1.a (mem_pa.mp z)
      · obtain ⟨j, d', h1, h2⟩ := mem_ownA.mp z
        exact n1.s j d' h1 h2
    have e2 : H2 p = some h := C2.frm p _ e1 dn (fun ⟨d, z⟩ => by rw [n1.o] at z; cases z)
    have n2 : Nw B F2 pa2 t2 env σ p := by
      refine ⟨?_, n1.b, fun z => ?_, n1.s, noo_of n1.o C2 e1⟩
      · cases z : F2 p with
        | none => rfl
        | some o =>
          rcases C2.new p o z with ⟨o', q⟩ | q
          · have q : F1 p = some o' := q
            rw [n1.f] at q; cases q
          · have q : H1 p = none := q
            rw [e1] at q; cases q
      · rcases (C2.pen p z).2.2 with q | q
        · exact dn q
        · have q : H1 p = none := q
          rw [e1] at q; cases q
    obtain ⟨i1, i2⟩ := RelM.up C1 e1 r2
    exact k (.ref p :: vs) (d :: ds) F2 pa2 t2 H2 (g1.trans g3) C3 ⟨⟨p, h, rfl, n2, e2, RelO1.mono g3 d h r1, i2⟩, i1⟩ q2⟩⟩
theorem Cf.setM1 {F : Hp} {pa : Option Addr} {t : Ts} {env : En} {σ : L2.St} {H : Hp} (C : Cf K B F pa t env σ H) {i : Nat} {b : Bool} {d : D} {v : V} {bs : List Bool} {ds : List D} {vs : List V} (r : RelM K B F pa t env σ H (b :: bs) (d :: ds) (v :: vs)) :
    Cf K B F pa t (env.set i (mSl b d)) (σ.set i (some v)) H ∧ RelM K B F pa t (env.set i (mSl b d)) (σ.set i (some v)) H bs ds vs := by
  have keep : ∀ (e' : En) (σ' : L2.St), (∀ p, (∀ j : Nat, b = true → v ≠ .ref p) → Nw B F pa t env σ p → Nw B F pa t e' σ' p) → (∀ p, (v = .ref p → b = true → False) → Nw B F pa t env σ p → Nw B F pa t e' σ' p) → True := fun _ _ _ _ => True.intro
  cases b with
  | false =>
    obtain ⟨r1, r2⟩ := r
    refine ⟨C.setV i r1, ?_⟩
    have nw : ∀ p, Nw B F pa t env σ p → Nw B F pa t (env.set i (.val d)) (σ.set i (some v)) p := fun p n => by
      refine ⟨n.f, n.b, n.a, fun j e hj hs => ?_, n.o⟩
      rcases get_set hj with ⟨_, z⟩ | ⟨ne, z⟩
      · cases z
      · rw [List.getElem?_set_ne ne] at hs
        exact n.s j e z hs
    have go : ∀ (bs : List Bool) (ds : List D) (vs : List V), RelM K B F pa t env σ H bs ds vs → RelM K B F pa t (env.set i (.val d)) (σ.set i (some v)) H bs ds vs := by
      intro bs
      induction bs with
      | nil => intro ds vs r; cases ds <;> cases vs <;> exact r
      | cons b bs ih =>
        intro ds vs r
        cases ds with
        | nil => cases b <;> cases r
        | cons d' ds =>
          cases vs with
          | nil => cases b <;> cases r
          | cons v' vs =>
            cases b with
            | false => exact ⟨r.1, ih _ _ r.2⟩
            | true =>
              obtain ⟨⟨p, h, e, n, q⟩, r2⟩ := r
              exact ⟨⟨p, h, e, nw p n, q⟩, ih _ _ r2⟩
    exact go bs ds vs r2
  | true =>
    obtain ⟨⟨p, h, rfl, n, e, r1, hd⟩, r2⟩ := r
    refine ⟨C.setN i n e r1, ?_⟩
    have nw : ∀ q, q ≠ p → Nw B F pa t env σ q → Nw B F pa t (env.set i (.own d)) (σ.set i (some (.ref p))) q := fun q hq n => by
      refine ⟨n.f, n.b, n.a, fun j e hj hs => ?_, n.o⟩
      rcases get_set hs with ⟨_, z⟩ | ⟨ne, z⟩
      · cases z
        exact hq rfl
      · rw [List.getElem?_set_ne ne] at hj
        exact n.s j e hj z
    have go : ∀ (bs : List Bool) (ds : List D) (vs : List V), (∀ j : Nat, bs[j]? = some true → vs[j]? ≠ some (.ref p)) → RelM K B F pa t env σ H bs ds vs → RelM K B F pa t (env.set i (.own d)) (σ.set i (some (.ref p))) H bs ds vs := by
      intro bs
      induction bs with
      | nil => intro ds vs _ r; cases ds <;> cases vs <;> exact r
      | cons b bs ih =>
        intro ds vs hd r
        have hd' : ∀ (v' : V) (vs' : List V), vs = v' :: vs' → ∀ j : Nat, bs[j]? = some true → vs'[j]? ≠ some (.ref p) := fun v' vs' ev j hj => by
          have := hd (j + 1) (by simpa using hj)
          rw [ev] at this
          simpa using this
        cases ds with
        | nil => cases b <;> cases r
        | cons d' ds =>
          cases vs with
          | nil => cases b <;> cases r
          | cons v' vs =>
            cases b with
            | false => exact ⟨r.1, ih _ _ (hd' v' vs rfl) r.2⟩
            | true =>
              obtain ⟨⟨q, h', e', n', z⟩, r2⟩ := r
              have hq : q ≠ p := fun y => by
                have := hd 0 rfl
                rw [e', y] at this
                exact this rfl
              exact ⟨⟨q, h', e', nw q hq n', z⟩, ih _ _ (hd' v' vs rfl) r2⟩
    exact go bs ds vs hd r2
theorem RelM.len {F : Hp} {pa : Option Addr} {t : Ts} {env : En} {σ : L2.St} {H : Hp} : ∀ {bs : List Bool} {ds : List D} {vs : List V}, RelM K B F pa t env σ H bs ds vs → ds.length = bs.length ∧ vs.length = bs.length
  | [], [], [], _ => ⟨rfl, rfl⟩
  | false :: bs, d :: ds, v :: vs, r => by
    obtain ⟨i1, i2⟩ := RelM.len r.2
    exact ⟨by simp [i1], by simp [i2]⟩
  | true :: bs, d :: ds, v :: vs, r => by
    obtain ⟨i1, i2⟩ := RelM.len r.2
    exact ⟨by simp [i1], by simp [i2]⟩
  | [], [], _ :: _, r => r.elim
  | [], _ :: _, vs, r => by cases vs <;> exact r.elim
  | b :: _, [], vs, r => by cases b <;> cases vs <;> exact r.elim
  | b :: _, _ :: _, [], r => by cases b <;> exact r.elim
theorem q_par3M {i j l : Nat} {x y z : Str} {px py pz pt : Pos} {kt k2 pt2} {b1 b2 b3 : Bool} (hc : X.calm = true) (hN : X.N.Nodup) (hi : X.N[i]? = some x) (hj : X.N[j]? = some y) (hl : X.N[l]? = some z) (hij : i ≠ j) (hil : i ≠ l) (hjl : j ≠ l)
    (hx : X.env.scope.names.lookup x = some .local) (hy : X.env.scope.names.lookup y = some .local) (hz : X.env.scope.names.lookup z = some .local) (ha : QM X B [b1, b2, b3] [a, b, c] as)
    (hw : swappedStores [.Tuple [.Name x px, .Name y py, .Name z pz] kt pt] (.Tuple [a, b, c] k2 pt2) X.env = pure (some [x, y, z]))
    (hs : swapsWithSole [.Tuple [.Name x px, .Name y py, .Name z pz] kt pt] (.Tuple [a, b, c] k2 pt2) pos.line X.env = pure false := by rfl) :
    QS X B (.Assign [.Tuple [.Name x px, .Name y py, .Name z pz] kt pt] (.Tuple [a, b, c] k2 pt2) pos) (dParM [(i, b1), (j, b2), (l, b3)] as) := PS.imp (ps_par3 hc hN hi hj hl hij hil hjl hx hy hz ha hw hs) fun D σ H ⟨F, pa, t, env, DD, C, h, R⟩ =>
  ⟨F, pa, t, env, _, C, h, fun vs ds F' pa' t' H' g' C' r q => by
    obtain ⟨l1, l2⟩ := r.len
    match ds, vs, l1, l2, q, r with
    | [d, e, f], [v, w, u], _, _, q, r =>
      obtain ⟨C1, r1⟩ := C'.setM1 (i := i) r
      obtain ⟨C2, r2⟩ := C1.setM1 (i := j) r1
      obtain ⟨C3, _⟩ := C2.setM1 (i := l) r2
      exact ⟨v, w, u, rfl, R.nx F' pa' t' _ _ H' g' C3 q⟩⟩
/-! ### sorted, whole numbers -/
/-! ### reversed -/
/-! ### zip -/
theorem pair_of {F0 F : Hp} {pa0 pa : Option Addr} {t : Ts} {env : En} {σ : L2.St} {H : Hp} {T : Addr} {d1 d2 : D} {x y : V} (C : Cf K B F pa t env σ H) (hT : H T = none) (r1 : RelD K F pa d1 x) (r2 : RelD K F pa d2 y) :
    Gf H (upd H T (.tup [x, y])) ∧ ∃ F', (∀ a o, F' a = some o → (∃ o', F a = some o') ∨ H a = none) ∧ Gr F pa F' pa ∧ Cf K B F' pa t env σ (upd H T (.tup [x, y])) ∧ RelD K F' pa (.tup [d1, d2]) (.ref T) := by
  obtain ⟨g', C'⟩ := C.alloc (.tup [x, y]) hT
  refine ⟨fun b o z => by rw [upd_ne (ne_of_none z hT)]; exact z, _, fun b o z => ?_, g', C', ?_⟩
  · by_cases hb : b = T
    · rw [hb]; exact .inr hT
    · rw [upd_ne hb] at z
      exact .inl ⟨o, z⟩
  · unfold RelD
    exact ⟨T, _, rfl, upd_same, RelL.mono g' _ _ (RelL.cons r1 (RelL.cons r2 RelL.nil))⟩
theorem it_zip {F0 : Hp} {pa0 : Option Addr} {a b : Addr} {l m : List D} {vs us : List V} (e : SqL K F0 a vs) (r : RelL K F0 pa0 l vs) (e2 : SqL K F0 b us) (r2 : RelL K F0 pa0 m us) : ItOk K (Itz K a b) (zipD l m) F0 pa0 := fun B F pa t env σ H i g C => by
  have eH : SqL K H a vs := sq_mono C.sub (sq_mono g.f e)
  have eH2 : SqL K H b us := sq_mono C.sub (sq_mono g.f e2)
  have hl := r.len
  have hl2 := r2.len
  refine ⟨fun hi => ⟨vs, us, eH, eH2, by rw [zipD_len] at hi; omega⟩, fun d hd => ?_⟩
  rw [zipD_get] at hd
  cases q1 : l[i]? with
  | none => rw [q1] at hd; cases hd
  | some d1 =>
    cases q2 : m[i]? with
    | none => rw [q1, q2] at hd; cases hd
    | some d2 =>
      rw [q1, q2] at hd
      cases hd
      obtain ⟨v, hv, rv⟩ := r.get q1
      obtain ⟨u, hu, ru⟩ := r2.get q2
      refine ⟨⟨vs, us, v, u, eH, eH2, hv, hu⟩, fun x H' y => ?_⟩
      obtain ⟨T, x0, y0, rfl, hT, rfl, hx, hy⟩ := y
      have := hx vs eH
      rw [hv] at this
      cases this
      have := hy us eH2
      rw [hu] at this
      cases this
      exact pair_of (F0 := F0) (pa0 := pa0) C hT (RelD.mono g d1 v rv) (RelD.mono g d2 u ru)
theorem it_zipT {F0 : Hp} {pa0 : Option Addr} {a b : Addr} {l m : List D} {vs us : List V} (e : F0 a = some (.tup vs)) (r : RelL K F0 pa0 l vs) (e2 : F0 b = some (.tup us)) (r2 : RelL K F0 pa0 m us) : ItOk K (RZ.ItzT K a b) (zipD l m) F0 pa0 := fun B F pa t env σ H i g C => by
  have eH : SqT K H a vs := SqT.of (C.sub _ _ (g.f _ _ e))
  have eH2 : SqT K H b us := SqT.of (C.sub _ _ (g.f _ _ e2))
  have hl := r.len
  have hl2 := r2.len
  refine ⟨fun hi => ⟨vs, us, eH, eH2, by rw [zipD_len] at hi; omega⟩, fun d hd => ?_⟩
  rw [zipD_get] at hd
  cases q1 : l[i]? with
  | none => rw [q1] at hd; cases hd
  | some d1 =>
    cases q2 : m[i]? with
    | none => rw [q1, q2] at hd; cases hd
    | some d2 =>
      rw [q1, q2] at hd
      cases hd
      obtain ⟨v, hv, rv⟩ := r.get q1
      obtain ⟨u, hu, ru⟩ := r2.get q2
      refine ⟨⟨vs, us, v, u, eH, eH2, hv, hu⟩, fun x H' y => ?_⟩
      obtain ⟨T, x0, y0, rfl, hT, rfl, hx, hy⟩ := y
      have := hx vs eH
      rw [hv] at this
      cases this
      have := hy us eH2
      rw [hu] at this
      cases this
      exact pair_of (F0 := F0) (pa0 := pa0) C hT (RelD.mono g d1 v rv) (RelD.mono g d2 u ru)
theorem q_izip {elts : List Expr} {kk : Nat} {p tpos : Pos} (hg : Gl X "zip") (hm : X.mg "zip" = none) (ha : QE X B a da) (hb : QE X B b db)
    (hs : starEach [a, b] X.env = (false, eval a X.env) :: starEach [b] X.env := by rfl) (hs2 : starEach [b] X.env = (false, eval b X.env) :: starEach [] X.env := by rfl) (hpl : (backTo pos (starEach [b] X.env)).any (·.1) = false := by rfl) :
    QI X B (.Tuple elts kk tpos) (.Call (.Name "zip" p) [a, b] [] pos) (iZipD da db) :=
  PI.imp (RZ.pi_zipA hg hm (pa_cons ha (pa_cons hb pa_nil hs2) hs) hs hpl) fun σ H R ⟨F, pa, t, env, P, C, h, k⟩ => ⟨F, pa, t, env, _, C, h, fun v d F1 pa1 t1 H1 g1 C1 r q => ⟨F1, pa1, t1, env, _, C1, q, fun u d2 F2 pa2 t2 H2 g2 C2 r2 q2 => by
    have r := RelD.mono g2 d v r
    cases d with
    | lst l =>
      cases d2 with
      | lst m =>
        unfold RelD at r r2
        obtain ⟨a, vs, rfl, e1, r1⟩ := r
        obtain ⟨b, us, rfl, e2, r2⟩ := r2
        exact ⟨a, b, vs, us, rfl, .inl ⟨SqL.of (C2.sub _ _ e1), SqL.of (C2.sub _ _ e2), k _ _ F2 pa2 t2 H2 (g1.trans g2) C2 (it_zip (SqL.of e1) r1 (SqL.of e2) r2) q2⟩⟩
      | _ => exact q2.elim
    | tup l =>
      cases d2 with
      | tup m =>
        unfold RelD at r r2
        obtain ⟨a, vs, rfl, e1, r1⟩ := r
        obtain ⟨b, us, rfl, e2, r2⟩ := r2
        exact ⟨a, b, vs, us, rfl, .inr ⟨SqT.of (C2.sub _ _ e1), SqT.of (C2.sub _ _ e2), k _ _ F2 pa2 t2 H2 (g1.trans g2) C2 (it_zipT e1 r1 e2 r2) q2⟩⟩
      | _ => exact q2.elim
    | _ => exact q2.elim⟩⟩
end
end Q
/-! QH18 -/
namespace Q
open PySem L2 PyProof.Rows
end Q
/-! QH19 -/
namespace Q
open PySem L2 PyProof.Rows
section
variable {X : Cx} {B : Bs} {K : PySem.W.Frag} {a b c e o : Expr} {es : List Expr} {pos : Pos} {da db dc dk : DE} {as : DA}
/-! ### a, b, .. = x, y, .. by a tuple that is taken apart; some values are new objects -/
theorem RelM.heap {F : Hp} {pa : Option Addr} {t : Ts} {env : En} {σ : L2.St} {H H' : Hp} (hk : ∀ a o, H a = some o → H' a = some o) : ∀ {bs : List Bool} {ds : List D} {vs : List V}, RelM K B F pa t env σ H bs ds vs → RelM K B F pa t env σ H' bs ds vs
  | [], [], [], _ => True.intro
  | false :: bs, d :: ds, v :: vs, r => ⟨r.1, RelM.heap hk r.2⟩
  | true :: bs, d :: ds, v :: vs, r => by
    obtain ⟨⟨p, h, e, n, e1, r1, q⟩, r2⟩ := r
    exact ⟨⟨p, h, e, n, hk _ _ e1, r1, q⟩, RelM.heap hk r2⟩
  | [], [], _ :: _, r => r.elim
  | [], _ :: _, vs, r => by cases vs <;> exact r.elim
  | b :: _, [], vs, r => by cases b <;> cases vs <;> exact r.elim
  | b :: _, _ :: _, [], r => by cases b <;> exact r.elim
end
end Q
/-! QH20 -/
namespace Q
open PySem L2 PyProof.Rows
end Q
/-! QH21 -/
namespace Q
open PySem L2 PyProof.Rows
end Q
/-! QH22 -/
namespace Q
open PySem L2 PyProof.Rows
/-! ### defs that tell None or a new object -/
end Q
/-! QH23 -/
/-! ### sorted(d), a dict of whole numbers, any number of keys -/
namespace L2
open PySem PySem.Spec PyProof.Rows
end L2
namespace Q
open PySem L2 PyProof.Rows
end Q
/-! QH24 -/
namespace Q
open PySem L2 PyProof.Rows
end Q
/-! QH25 -/
/-! ### range(a, b) with bounds of any size -/
namespace L2
open PySem PySem.Spec PyProof.Rows
end L2
namespace Q
open PySem L2 PyProof.Rows
end Q
/-! QH26 -/
/-! ### defs that ask what is being shown (repr): the guards are known there -/
namespace Q
open PySem L2 PyProof.Rows PySem.Spec
/-- room, and nothing is being shown -/
structure RoomG (k : Nat) (A : Around) : Prop where
  room : Room k A
  idle : A.guards = some []
theorem RoomG.mono {j k : Nat} {A : Around} (r : RoomG k A) (h : j ≤ k) : RoomG j A := ⟨r.room.mono h, r.idle⟩
structure FnOkG (P : Program) (w : World) (K : PySem.W.Frag) (mg : Str → Option Value) (base : Heap) (CX : CXT) (k : Nat) (f : Addr) (fd : FuncData) (ps : List Str) (sp : Sp) : Prop where
  len : ∀ vs H Q E, sp vs H Q E → vs.length = ps.length
  goes : ∀ (A : Around), RoomG k A → ∀ (outer : List PySem.Env) (s : Shared) (H : Hp), Env0 P w K mg base A outer s H → ∀ (args : Args) (us : List Value) (vs : List V), Vals vs us → BindsTo s fd args (ps.zip us) →
    ∀ (R : VK) (E : XK), sp vs H R E → codeAny (model P w) A (.call (.ref f) args) (CR CX outer P w H s R E) s
section
variable {P : Program} {w : World} {K : PySem.W.Frag} {mg : Str → Option Value} {base : Heap} {CX : CXT} {k : Nat} {f : Addr} {fd : FuncData} {ps : List Str} {sp : Sp}
theorem FnOkG.of (F : FnOk P w K mg base CX k f fd ps sp) : FnOkG P w K mg base CX k f fd ps sp where
  len := F.len
  goes A r outer s H e args us vs rel b R E h := F.run A outer s H args us vs R E r.room e b rel h
end
section
variable {X : Cx} {CX : CXT} {k : Nat} {f : Addr} {fd : FuncData} {ps : List Str} {sp : Sp} {E : XK} {ds : List Value} {dvs : List V} {x : Str} {p pos : Pos} {e : Expr} {es : List Expr} {t : TA}
/-- the call itself, all evaluated -/
theorem FnOkG.call (F : FnOkG X.prog X.w X.K X.mg X.base CX k f fd ps sp) (r : RoomG k X.A) (b : Binds X.K fd ps ds) (d : Vals dvs ds) (px : Passes CX X E) {pins : List (Addr × Obj)} {σ : L2.St} {H : Hp} {s : Shared} {R : VK} {us : List Value} {vs : List V}
    (I : Inv X pins σ H s) (rv : Vals vs us) (h : sp (vs ++ dvs) H R E) : wpAny (model X.prog X.w) X.A (call (.ref f) us) (EP X pins σ R) X.xe s :=
  have rall : Vals (vs ++ dvs) (us ++ ds) := rv.append d
  have bs := b s us I.kIn (by have := F.len _ _ _ _ h; have e := rall.length; omega)
  wpAny_call (codeAny_mono (F.goes X.A r X.stack s H I.env0 ⟨us, []⟩ _ _ rall bs R E h) fun res s' q =>
    match res, q with
    | .ok (.ret _), q => I.after q
    | .ok .next, q => q.elim
    | .ok .brk, q => q.elim
    | .ok .cont, q => q.elim
    | .error ex, q => px pins σ H s ex s' I q)
end
section
variable {P : Program} {w : World} {K : PySem.W.Frag} {mg : Str → Option Value} {base : Heap}
/-- where a parameter's value goes -/
theorem par_kind {N ps : List Str} {scope : Scope} (S : FnScope N ps scope) (us : List Value) (n : Nat) : ∀ y ∈ ps.zip us, scope.names.lookup y.1 = some .local ∨ (scope.names.lookup y.1 = some .cell ∧ ((cellsFrom n scope.names []).lookup y.1).isSome = true) := by
  intro y hy
  have hp := S.par y.1 (List.of_mem_zip (a := y.1) (b := y.2) hy).1
  exact hp.imp id fun c => ⟨c, PySem.W.cellsFrom_some _ _ _ (.inl c)⟩
theorem Fun.okG {x qual : Str} {st : Stmt} {f : Addr} {fd : FuncData} {N ps : List Str} {k : Nat} {sp : Sp} (Fu : Fun K x qual st f fd) (S : FnScope N ps (defScope st)) (len : ∀ vs H R E, sp vs H R E → vs.length = ps.length)
    (hbody : ∀ (cdv : Value) (A : Around) (outer : List PySem.Env) (s : Shared) (H : Hp) (vs : List V) (R : VK) (E : XK), RoomG k (A.deeper (envOfC qual (defScope st) s.heap.objs.size f cdv)) → sp vs H R E →
      ∃ t, PSs (cxOf CX0 P w K mg base N qual (defScope st) f cdv A outer s H E).nox (defBody st) t ∧ t { nx := fun _ H' => R .non H', rt := R } (start N vs) H) : FnOkG P w K mg base CX0 (k + 1) f fd ps sp where
  len := len
  goes A r outer s H e args us vs rel b R E h := by
    obtain ⟨oc, od, kV, doc, pm, an, cdv, ct, osl, rfl, lk, hcd⟩ := Fu.ex
    obtain ⟨t, ht, hq⟩ := hbody cdv A outer s H vs R E ⟨r.room.deeper _, r.idle⟩ h
    have there : ∀ c o, base.get? c = some o → s.heap.get? c = some o := fun c o g => (e.bs c o g).1
    have inK := e.mod.kin.keeps there
    have noL := e.mod.nolimit.keeps there
    refine codeAny_call_function r.room.depth (inK f _ lk) rfl S.co S.gen rfl (PySem.W.codeRec_of inK hcd) (b _ _ _ _ ?_)
    refine wpAny_newFunctionEnv_cells S.kind (par_kind S us _) ?_
    rintro env rfl s1 made
    refine ⟨noL.keeps made.toInCall.keep, codeAny_func ?_⟩
    have go := ht.nox.run [] s1 (start N vs) H _ (inv_start S (r.room.deeper (envOfC qual (defScope st) s.heap.objs.size f cdv)).hd e (len _ _ _ _ h) rel made) hq
    refine wpAny_mono go ?_ fun _ _ z => z
    rintro (_ | _ | _ | u) s' z
    · obtain ⟨σ', H', J, q⟩ := z
      exact ⟨.non, H', J.os, J.bare, J.base, J.hok, rfl, q⟩
    · obtain ⟨_, _, _, q⟩ := z
      exact q.elim
    · obtain ⟨_, _, _, q⟩ := z
      exact q.elim
    · obtain ⟨v, σ', H', J, rv, q⟩ := z
      exact ⟨v, H', J.os, J.bare, J.base, J.hok, rv, q⟩
/-! ### the law's call -/
/-- what is tracked there: the script, where the written part doesn't hold it -/
def scrH (K : PySem.W.Frag) (a : Addr) (o : Obj) (ns : List Int) : Hp := fun b => if b = a ∧ K.lookup a = none then some (.frz o (.lst (ns.map V.int))) else none
theorem scrH_inv {K : PySem.W.Frag} {a b : Addr} {o : Obj} {ns : List Int} {u : HO} (h : scrH K a o ns b = some u) : b = a ∧ K.lookup a = none ∧ u = .frz o (.lst (ns.map V.int)) := by
  unfold scrH at h
  split at h
  · rename_i c; cases h; exact ⟨c.1, c.2, rfl⟩
  · cases h
theorem scrH_only (K : PySem.W.Frag) (a : Addr) (o : Obj) (ns : List Int) : Only (scrH K a o ns) := fun b => by
  cases q : scrH K a o ns b with
  | none => exact .inl rfl
  | some u => exact .inr ⟨o, _, congrArg some (scrH_inv q).2.2⟩
theorem scrH_none {K : PySem.W.Frag} {a b : Addr} {o : Obj} {ns : List Int} (h : b = a → K.lookup a ≠ none) : scrH K a o ns b = none := if_neg fun c => h c.1 c.2
/-- the script as the model lays it -/
abbrev scrO (vs : List Value) : Obj := { cls := .type "list", data := .seq vs.toArray }
theorem law_callG {mb : Str → Option Value} {k : Nat} {fa a : Addr} {fd : FuncData} {x : Str} {s : Shared} {vs : List Value} {ns : List Int} {sp : Sp} (room : RoomG k callerA)
    (inK : K.In s.heap) (hG : s.heap.Ns mainGlobals mg) (hB : s.heap.Ns builtinsNs mb) (boot : ∀ y : Str, y ≠ "__name__" → mb y = bootBuiltins y) (noL : s.heap.NoLimit) (gens : s.gens = #[])
    (at_ : s.heap.get? a = some (scrO vs)) (iv : IntsAre vs ns) (small : ns.length ≤ sizeLine)
    (F : ∀ base : Heap, K.In base → base.Ns mainGlobals mg → FnOkG P w K mg base CX0 k fa fd [x] sp) (bind : ∀ (s : Shared) (u : Value), BindsTo s fd ⟨[u], []⟩ [(x, u)])
    (asks : ∀ H : Hp, Only H → SqL K H a (ns.map V.int) → sp [.ref a] H (fun v _ => v = .bl true) E0) :
    codeAny (model P w) callerA (.call (.ref fa) ⟨[.ref a], []⟩) (fun r s' => r = .ok (.ret (.bool true)) ∧ OldK s.heap s'.heap ∧ s'.os = s.os ∧ AllBare s'.gens) s := by
  have vals := vals_ints iv
  have vlen : vs.length = ns.length := by have := vals.length; simpa using this.symm
  let T := scrH K a (scrO vs) ns
  -- nothing but the script is tracked, so all else of the heap is the base's
  have clear : ∀ {b : Addr} {o : Obj}, s.heap.get? b = some o → (b = a → K.lookup a = none → False) → T b = none := fun {b o} _ n => scrH_none fun e z => n e z
  have keepNs : ∀ {b : Addr} {m : Str → Option Value}, s.heap.Ns b m → (hidT s.heap T).Ns b m := by
    rintro b m ⟨o, es, ep, g, d, rest⟩
    refine ⟨o, es, ep, hidT_get g (clear g fun e _ => ?_), d, rest⟩
    subst e
    have := at_.symm.trans g
    cases this
    cases d
  have baseK : K.In (hidT s.heap T) := fun b o l => hidT_get (inK b o l) (scrH_none fun e z => by subst e; rw [l] at z; cases z)
  have seq : SqL K T a (ns.map V.int) := by
    cases l : K.lookup a with
    | none => exact .inl (.inr ⟨scrO vs, if_pos ⟨rfl, l⟩⟩)
    | some o =>
      have := at_.symm.trans (inK a o l)
      cases this
      exact .inr ⟨_, vs.toArray, _, l, rfl, rfl, rfl, by simpa [vlen] using small, by simpa using vals⟩
  have objs : HOk P w T s.heap := fun b u h => by
    obtain ⟨rfl, _, rfl⟩ := scrH_inv h
    exact ⟨at_, by simpa using small, vs, _, vals, at_⟩
  obtain ⟨mc, nb, bb⟩ := noL
  have md : Mod K mg (hidT s.heap T) := { kin := baseK, glob := keepNs hG, blt := ⟨mb, keepNs hB, boot⟩, nolimit := ⟨mc, keepNs nb, bb⟩ }
  have env0 : Env0 P w K mg (hidT s.heap T) callerA [] s T :=
    { frames := rfl, mod := md, bs := fun _ _ g => of_hidT g, bsz := by rw [hidT_size]; exact Nat.le_refl _, funs := trivial, frf := fun b z => (by cases z), hok := objs, bare := .of_eq gens }
  refine codeAny_mono ((F _ baseK (keepNs hG)).goes callerA room [] s T env0 ⟨[.ref a], []⟩ [.ref a] [.ref a] (.cons rfl .nil) (bind s (.ref a)) _ _ (asks T (scrH_only _ _ _ _) seq)) ?_
  rintro (ex | fl) s' h
  · exact h.elim
  · cases fl with
    | ret u =>
      obtain ⟨v, H', os, bare, un, ok', rv, q⟩ := h
      have q : v = .bl true := q
      subst q
      have rv : u = Value.bool true := rv
      subst rv
      refine ⟨rfl, OldK.of_keep fun b o g => ?_, os, bare⟩
      cases q : T b with
      | none => exact un.keep b o g q (fun z => by cases z) (fun z => by cases z)
      | some u =>
        obtain ⟨rfl, _, rfl⟩ := scrH_inv q
        have g2 := (ok' b _ (un.frzs b _ _ q)).1
        have := at_.symm.trans g
        cases this
        exact g2
    | next => exact h.elim
    | brk => exact h.elim
    | cont => exact h.elim
end
open PySem.Spec in
theorem walk_ofG {l : PySem.W.OpenLaw} {n k : Nat} {q : Program} {loose : List Str} {XP : (Str → Option Value) → Heap → Prop} {YP : World → Heap → Prop} {d : DefRec} {K : Params → PySem.W.Frag} {sp : PySem.W.Frag → Sp} {x : Str}
    (hn : l.most = some n) (fits : n ≤ sizeLine) (hdf : d.params.defaults = []) (room : RoomG k callerA) (hY : ∀ (w : World) (h : Heap), YP w h → (K w.params).In h)
    (F : ∀ (w : World) (mg : Str → Option Value) (fa : Addr) (h : Heap), (K w.params).In h → h.Ns mainGlobals mg → mg d.name = some (.ref fa) →
      ∃ fd : FuncData, (∀ (s : Shared) (u : Value), BindsTo s fd ⟨[u], []⟩ [(x, u)]) ∧ ∀ base : Heap, (K w.params).In base → base.Ns mainGlobals mg → FnOkG l.prog w (K w.params) mg base CX0 k fa fd [x] (sp (K w.params)))
    (asks : ∀ (K : PySem.W.Frag) (H : Hp) (a : Addr) (ns : List Int), ns.length ≤ n → Only H → SqL K H a (ns.map V.int) → sp K [.ref a] H (fun v _ => v = .bl true) E0) :
    PySem.W.WalkO q loose XP YP l.row.toRowW d [] (fun f vs => PySem.call f vs) := by
  apply Att.attach_call hn hdf
  intro w s₀ s mg mb fa o pm cd doc a vs ns G Y _ _ _ at_fa at_a iv short gens
  have inK := hY w _ Y
  obtain ⟨fd, bind, ok⟩ := F w mg fa _ inK G.T.g at_fa
  exact law_callG room inK G.T.g G.T.b G.T.builtins G.T.nolimit gens at_a iv (Nat.le_trans short fits) ok bind fun H o1 o2 => asks _ H a ns short o1 o2
section
variable {P : Program} {w : World} {K : PySem.W.Frag} {mg : Str → Option Value} {base : Heap}
theorem fn_lawG {x qual : Str} {st : Stmt} {f : Addr} {fd : FuncData} {N : List Str} {p : Str} {k i : Nat} {s0 : Stmt} {rest : List Stmt} {dp : DE} {ds : DS} (Fu : Fun K x qual st f fd) (S : FnScope N [p] (defScope st)) (hst : defBody st = s0 :: rest)
    (hfirst : ∀ (cdv : Value) (A : Around) (outer : List PySem.Env) (s : Shared) (H : Hp) (E : XK) (B : Bs), RoomG k (A.deeper (envOfC qual (defScope st) s.heap.objs.size f cdv)) →
      PS (cxOf CX0 P w K mg base N qual (defScope st) f cdv A outer s H E).nox s0 (tAsg (tnOf K B dp) (L2.gName i)))
    (hbody : ∀ (cdv : Value) (A : Around) (outer : List PySem.Env) (s : Shared) (H : Hp) (E : XK) (B : Bs), RoomG k (A.deeper (envOfC qual (defScope st) s.heap.objs.size f cdv)) → B.Top → B.m = false →
      QSs (cxOf CX0 P w K mg base N qual (defScope st) f cdv A outer s H E).nox B rest ds)
    (hi : i ≠ 0 ∧ i < N.length) (tape : Bool)
    (hds : ∀ ns : List Int, ns.length ≤ 63 → dp (start0 N [.scr ns]) ⟨[], 0, 0, false, noObs⟩ fun d _ => ∃ cs : List Int, d = .dic (if tape then [.inr "cells", .inr "turn", .inr "rest"] else [.inr "cells", .inr "at", .inr "left"]) [.lst (cs.map .int), .int 0, .int 0] ∧ cs.length ≤ 63 ∧
      ds (endsOf fun d _ => d = .bl true) ((start0 N [.scr ns]).set i (.val .pen)) ⟨cs, 0, 0, tape, noObs⟩) : FnOkG P w K mg base CX0 (k + 1) f fd [p] (spLaw K) := by
  refine Fun.okG Fu S (fun vs H Q E h => ?_) (fun cdv A outer s H vs Q E hr h => ?_)
  · obtain ⟨a, ns, rfl, _⟩ := h
    rfl
  · exact law_body hst (fun B => hfirst cdv A outer s H E B hr) (fun B => hbody cdv A outer s H E B hr) hi tape hds h
end
section
variable {X : Cx} {CX : CXT} {B : Bs} {k : Nat} {f : Addr} {fd : FuncData} {ps : List Str} {sp : PSp} {E : XK} {ds : List Value} {dvs : List V} {dds : List D} {x : Str} {p pos : Pos} {e : Expr} {es : List Expr} {as : DA}
/-! ### repr -/
def rReprD (K : PySem.W.Frag) : List V → Hp → VK → Prop := fun xs H Q => ∃ v d, xs = [v] ∧ Dp K H v d ∧ d.showable = true ∧ d.hasDict = false ∧ d.depth ≤ 60 ∧ d.shown.length ≤ sizeLine ∧ Q (.str d.shown) H
theorem call_reprD (hg : X.A.guards = some []) (hu : X.A.units + 64 < cLine) : CallR X (.builtin "repr") (rReprD X.K) := by
  intro pins s σ H xs us Q I r h
  obtain ⟨v, d, rfl, hv, hs, hd, dd, hz, q⟩ := h
  obtain ⟨u, rfl, ru⟩ := vals1 r
  obtain ⟨rs, reads⟩ := Dp.reads I d v u hv ru
  have fin : ∀ {a : Addr}, u = .ref a → wpAny (model X.prog X.w) X.A (PySem.call (.builtin "repr") [u]) (EP X pins σ Q) X.xe s := fun {a} e => by
    subst e
    exact repr_of_reads' reads hs (PyData.noDict_hsm hd) hg (by omega) (fun _ _ z => z) (fun h' u tk keep => ⟨.str d.shown, H, I.kept keep, ⟨u, rfl⟩, q⟩) hz
  cases hv with
  | non =>
    obtain rfl : u = Value.none := ru
    exact PySem.P.repr_of_none ⟨.str _, H, I.tok _, ⟨_, rfl⟩, q⟩
  | bl b =>
    obtain rfl : u = Value.bool b := ru
    cases b
    · exact PySem.P.repr_of_bool ⟨.str _, H, I.tok _, ⟨_, rfl⟩, q⟩
    · exact PySem.P.repr_of_bool ⟨.str _, H, I.tok _, ⟨_, rfl⟩, q⟩
  | int i =>
    obtain ⟨t, rfl⟩ := ru
    exact PySem.P.repr_of_int (by simpa [PyData.showable] using hs) ⟨.str _, H, I.tok _, ⟨_, rfl⟩, q⟩
  | str x =>
    obtain ⟨t, rfl⟩ := ru
    exact PySem.P.repr_of_str ⟨.str _, H, I.tok _, ⟨_, rfl⟩, q⟩ hz
  | lst h1 h2 => exact fin ru
  | tup h1 h2 => exact fin ru
mutual
theorem rs_show : ∀ d : D, plain d = true → rsOk d → (toPy d).showable = true
  | .non, _, _ => rfl
  | .bl _, _, _ => rfl
  | .int i, _, h => by
    have h : i.natAbs < 2 ^ 1900 := h
    show decide (i.natAbs.log2 < 1920) = true
    rw [decide_eq_true_eq]
    exact log2_small (Nat.lt_trans h (Nat.pow_lt_pow_right (by decide) (by decide)))
  | .str _, _, _ => rfl
  | .lst l, p, h => by simp only [toPy, PyData.showable]; exact rss_show l (by simpa [plain] using p) (by simpa [rsOk] using h)
  | .tup l, p, h => by simp only [toPy, PyData.showable]; exact rss_show l (by simpa [plain] using p) (by simpa [rsOk] using h)
  | .dic _ _, p, _ => by simp [plain] at p
  | .ins _ _ _, p, _ => by simp [plain] at p
  | .pen, p, _ => by simp [plain] at p
  | .ty _, p, _ => by simp [plain] at p
  | .adr _, p, _ => by simp [plain] at p
  | .scr _, p, _ => by simp [plain] at p
  | .rp _, p, _ => by simp [plain] at p
theorem rss_show : ∀ l : List D, plains l = true → rssOk l → PyData.showableAll (toPys l) = true
  | [], _, _ => rfl
  | d :: l, p, h => by
    simp only [plains, Bool.and_eq_true] at p
    simp only [rssOk] at h
    simp only [toPys, PyData.showableAll, Bool.and_eq_true]
    exact ⟨rs_show d p.1 h.1, rss_show l p.2 h.2⟩
end
theorem shown_lens : ∀ l : List D, (∀ d ∈ l, (toPy d).shown.length ≤ rsz d) → ((PyData.shownAll (toPys l)).map (·.length)).sum + 2 * (PyData.shownAll (toPys l)).length ≤ rszs l
  | [], _ => by simp [toPys, PyData.shownAll, rszs]
  | d :: l, h => by
    have h1 := h d List.mem_cons_self
    have h2 := shown_lens l fun e he => h e (List.mem_cons_of_mem _ he)
    simp only [toPys, PyData.shownAll, List.map_cons, List.sum_cons, List.length_cons, rszs]
    omega
mutual
theorem rs_len : ∀ d : D, plain d = true → rsOk d → (toPy d).shown.length ≤ rsz d
  | .non, _, _ => by simp only [toPy, PyData.shown, rsz]; decide
  | .bl b, _, _ => by cases b <;> simp only [toPy, PyData.shown, rsz] <;> decide
  | .int i, p, h => by
    have hs : decide (i.natAbs.log2 < 1920) = true := rs_show (.int i) p h
    exact int_text_len_1921 (of_decide_eq_true hs)
  | .str x, p, _ => by
    have hp : x.cps.all (· < 0x110000) = true := p
    have := StrLaws.reprText_len x fun c hc => by
      rw [Array.all_eq_true_iff_forall_mem] at hp
      have := hp c (Array.mem_toList_iff.mp hc)
      have h2 : c < 0x110000 := of_decide_eq_true this
      exact Nat.lt_trans h2 (by decide)
    show (reprText x).length ≤ 10 * x.length + 5
    omega
  | .lst l, p, h => by
    have := shown_lens l (rss_len l (by simpa [plain] using p) (by simpa [rsOk] using h))
    have h2 := listText_len_le (PyData.shownAll (toPys l))
    simp only [toPy, PyData.shown, rsz]
    omega
  | .tup l, p, h => by
    have := shown_lens l (rss_len l (by simpa [plain] using p) (by simpa [rsOk] using h))
    have h2 := tupleText_len_le (PyData.shownAll (toPys l))
    simp only [toPy, PyData.shown, rsz]
    omega
  | .dic _ _, p, _ => by simp [plain] at p
  | .ins _ _ _, p, _ => by simp [plain] at p
  | .pen, p, _ => by simp [plain] at p
  | .ty _, p, _ => by simp [plain] at p
  | .adr _, p, _ => by simp [plain] at p
  | .scr _, p, _ => by simp [plain] at p
  | .rp _, p, _ => by simp [plain] at p
theorem rss_len : ∀ l : List D, plains l = true → rssOk l → ∀ d ∈ l, (toPy d).shown.length ≤ rsz d
  | [], _, _ => fun d hd => by cases hd
  | e :: l, p, h => fun d hd => by
    simp only [plains, Bool.and_eq_true] at p
    simp only [rssOk] at h
    rcases List.mem_cons.mp hd with z | hd
    · rw [z]; exact rs_len e p.1 h.1
    · exact rss_len l p.2 h.2 d hd
end
theorem rc_repr {K : PySem.W.Frag} : RCall K (rReprD K) bRepr := fun B F pa t env σ H xs vs P Q W r h k => by
  unfold bRepr at h
  split at h
  · rename_i x
    obtain ⟨⟨h1, h2, h3, h4⟩, h⟩ := h
    obtain ⟨v, rfl, r1⟩ := r.one
    have dp := dp_x W r1 h1
    refine ⟨v, toPy x, rfl, dp, rs_show x h1 h3, PyData.hasDict_of_canLay _ (lay_toPy x h1), by rw [dep_toPy x h1]; exact h2, Nat.le_trans (rs_len x h1 h3) (Nat.le_trans h4 (by decide)), ?_⟩
    exact k (.str (toPy x).shown) (.rp x) F H (Gr.refl _ _) W (by unfold RelD; rfl) h
  · exact h.elim
theorem RelX.rp {K : PySem.W.Frag} {F : Hp} {pa : Option Addr} {t : Ts} {env : En} {σ : L2.St} {H : Hp} {i : D} {v : V} (W : Cf K B F pa t env σ H) (r : RelX K F pa env σ (.rp i) v) : v = .str (toPy i).shown := by
  rcases r with r | ⟨i, h1, h2⟩
  · unfold RelD at r; exact r
  · obtain ⟨a, h, s1, q, z, _⟩ := W.own _ _ h1; exact z.elim
theorem rop_neR {K : PySem.W.Frag} : ROp K rNe oNeR := fun B F pa t env σ H x y v u P Q W rx ry h k => by
  cases x with
  | rp a =>
    cases y with
    | rp b =>
      have e1 := RelX.rp W rx
      have e2 := RelX.rp W ry
      subst e1 e2
      refine ⟨rfl, k _ (.bl (!decide ((V.str (toPy a).shown) = V.str (toPy b).shown))) F H (Gr.refl _ _) W (rD_bl _) (h _ fun e => ?_)⟩
      subst e; simp
    | _ => exact h.elim
  | _ => exact h.elim
end
end Q
/-! QH27 -/
namespace Q
open PySem L2 PyProof.Rows
end Q
/-! QD2 -/
/-! Q, the data level, more of it. -/
namespace Q
open PySem
end Q
/-! QH28 -/
namespace Q
open PySem L2 PyProof.Rows
section
variable {X : Cx} {CX : CXT} {B : Bs} {K : PySem.W.Frag} {k : Nat} {f C : Addr} {fd : FuncData} {ps : List Str} {E : XK} {a b : Expr} {da db : DE} {pos : Pos}
theorem RelX.adr {F : Hp} {pa : Option Addr} {t : Ts} {env : En} {σ : L2.St} {H : Hp} {A : Addr} {v : V} (W : Cf K B F pa t env σ H) (r : RelX K F pa env σ (.adr A) v) : v = .ref A := by
  rcases r with r | ⟨i, z1, z2⟩
  · unfold RelD at r; exact r
  · obtain ⟨_, _, _, _, z, _⟩ := W.own _ _ z1; exact z.elim
end
end Q
/-! QD3 -/
/-! Q, the data level, still more. -/
namespace Q
open PySem
end Q
/-! QH29 -/
namespace Q
open PySem L2 PyProof.Rows
end Q
/-! QH30 -/
namespace Q
open PySem L2 PyProof.Rows
/-! ### two fors in one comprehension -/
end Q
/-! QH31 -/
namespace Q
open PySem L2 PyProof.Rows
end Q
/-! QD4 -/
namespace Q
open PySem
def oNotB : DOp := fun x y P => match x, y with
  | .bl a, .bl b => P (.bl (!(a == b)))
  | _, _ => False
/-! defs that may raise -/
end Q
/-! QH32 -/
namespace Q
open PySem L2 PyProof.Rows
/-! ### keyword-only parameters -/
section
variable {K : PySem.W.Frag} {X : Cx} {B : Bs}
variable {CX : CXT} {k n : Nat} {f : Addr} {fd : FuncData} {ps ks : List Str} {sp : PSp} {E : XK} {x : Str} {p pos : Pos} {e : Expr} {es : List Expr} {kws : List Keyword} {as bs : DA} {ix : List Nat}
theorem rop_notB : ROp K rNotB oNotB := fun B F pa t env σ H x y v u P Q W rx ry h k => by
  cases x with
  | bl a =>
    cases y with
    | bl b =>
      refine ⟨a, b, rx.bl W, ry.bl W, ?_⟩
      have e : decide (a = b) = (a == b) := by cases a <;> cases b <;> rfl
      rw [e]
      exact k _ _ F H (Gr.refl _ _) W (rD_bl _) h
    | _ => exact h.elim
  | _ => exact h.elim
end
end Q
/-! QH33 -/
namespace Q
open PySem L2 PyProof.Rows PpSet
/-! ### {e for x in xs if c}, {e for x in xs if c for y in ys if d}: sets of whole numbers -/
end Q
/-! QH34 -/
namespace Q
open PySem L2 PyProof.Rows PpSet
/-! ### sorted(sets of whole numbers) -/
end Q
/-! MLib -/
namespace Q
open PySem
/-! ### data made of whole numbers -/
theorem plains_ints : ∀ a : List Int, plains (a.map .int) = true
  | [] => rfl
  | x :: a => by simp [plains, plain, plains_ints a]
theorem deeps_ints : ∀ a : List Int, deeps (a.map .int) = 0
  | [] => rfl
  | x :: a => by simp [deeps, deep, deeps_ints a]
theorem deqs_ints : ∀ a b : List Int, deqs (a.map .int) (b.map .int) = decide (a = b)
  | [], [] => rfl
  | [], _ :: _ => by simp [deqs]
  | _ :: _, [] => by simp [deqs]
  | x :: a, y :: b => by simp [deqs, deq, deqs_ints a b]
theorem deq_ints (a b : List Int) : deq (.lst (a.map .int)) (.lst (b.map .int)) = decide (a = b) := by simp [deq, deqs_ints]
theorem eqok_ints (a b : List Int) : plain (.lst (a.map .int)) = true ∧ plain (.lst (b.map .int)) = true ∧ deep (.lst (a.map .int)) ≤ 60 ∧ deep (.lst (b.map .int)) ≤ 60 := by
  simp [plain, plains_ints, deep, deeps_ints]
theorem deqn_t {a b : List Int} (h : (!deq (.lst (a.map .int)) (.lst (b.map .int))) = true) : a ≠ b := by rw [deq_ints] at h; simpa using h
theorem deqn_f {a b : List Int} (h : (!deq (.lst (a.map .int)) (.lst (b.map .int))) = false) : a = b := by rw [deq_ints] at h; simpa using h
theorem ints_map : ∀ a : List Int, intsD (a.map .int) = some a
  | [] => rfl
  | x :: a => by simp [intsD, ints_map a]
theorem atI_nat {xs : List D} {i : Int} {d : D} (h0 : 0 ≤ i) (h : xs[i.toNat]? = some d) : atI xs i = some d := by
  unfold atI
  have := (List.getElem?_eq_some_iff.mp h).1
  rw [if_pos h0, if_pos (by omega), h]
theorem atI_ints {xs : List Int} {i : Int} (h0 : 0 ≤ i) (h : i < xs.length) : atI (xs.map .int) i = some (.int (xs.getD i.toNat 0)) := by
  refine atI_nat h0 ?_
  have h' : i.toNat < xs.length := by omega
  rw [List.getElem?_map, List.getElem?_eq_getElem h']
  simp [List.getD_eq_getElem?_getD, List.getElem?_eq_getElem h']
/-! ### tests whose answer is known -/
theorem br_ne {c : Prop} [Decidable c] {p q : Prop} (h : c) (k : q) : Br (!decide c) p q := Br.mk (fun z => by simp [h] at z) fun _ => k
theorem br_eq {c : Prop} [Decidable c] {p q : Prop} (h : c) (k : p) : Br (decide c) p q := Br.mk (fun _ => k) fun z => absurd h (of_decide_eq_false z)
theorem br_nq {c : Prop} [Decidable c] {p q : Prop} (h : ¬ c) (k : q) : Br (decide c) p q := Br.mk (fun z => absurd (of_decide_eq_true z) h) fun _ => k
theorem br_nn {c : Prop} [Decidable c] {p q : Prop} (h : ¬ c) (k : p) : Br (!decide c) p q := Br.mk (fun _ => k) fun z => by simp [h] at z
theorem br_nl {a b : List Int} {p q : Prop} (h : a = b) (k : q) : Br (!deq (.lst (a.map .int)) (.lst (b.map .int))) p q := Br.mk (fun z => absurd h (deqn_t z)) fun _ => k
/-! ### sizes -/
theorem Sm.lit {b : Nat} {i : Int} (h : i.natAbs < 2 ^ b) : Sm b i := h
theorem Sm.mono {a b : Nat} {i : Int} (h : Sm a i) (hab : a ≤ b) : Sm b i := Nat.lt_of_lt_of_le h (Nat.pow_le_pow_right (by decide) hab)
theorem Sm.of {b : Nat} {i j : Int} (h0 : 0 ≤ i) (h : i ≤ j) (hj : Sm b j) : Sm b i := by unfold Sm at *; omega
theorem Sm.mul {a b : Nat} {i j : Int} (h : Sm a i) (k : Sm b j) : Sm (a + b) (i * j) := by
  unfold Sm at *
  rw [Int.natAbs_mul, Nat.pow_add]
  exact Nat.mul_lt_mul'' h k
theorem Sm.add {a : Nat} {i j : Int} (h : Sm a i) (k : Sm a j) : Sm (a + 1) (i + j) := by
  unfold Sm at *
  have := Nat.pow_succ 2 a
  omega
theorem Sm.sub {a : Nat} {i j : Int} (h : Sm a i) (k : Sm a j) : Sm (a + 1) (i - j) := by
  unfold Sm at *
  have := Nat.pow_succ 2 a
  omega
theorem sm64 {i : Int} (h0 : -1000000000000000000 ≤ i) (h1 : i ≤ 1000000000000000000) : Sm 64 i := by
  unfold Sm
  have : (2 : Nat) ^ 64 = 18446744073709551616 := by decide
  omega
theorem MulOk.l {i j : Int} (h0 : -1000000000000000000 ≤ i) (h1 : i ≤ 1000000000000000000) : MulOk i j := .inl (sm64 h0 h1)
theorem MulOk.r {i j : Int} (h0 : -1000000000000000000 ≤ j) (h1 : j ≤ 1000000000000000000) : MulOk i j := .inr (.inl (sm64 h0 h1))
theorem MulOk.w {i j : Int} {a b : Nat} (h1 : Sm a i) (h2 : Sm b j) (h3 : 0 < a) (h4 : 0 < b) (h5 : a + b ≤ 1000000) : MulOk i j := .inr (.inr ⟨a, b, h1, h2, h3, h4, h5⟩)
theorem DivOk.s {j : Int} (h0 : 0 < j) (h1 : j ≤ 1000000000000000000) : DivOk j := ⟨h0, (sm64 (by omega) h1).mono (by decide)⟩
theorem DivOk.w {j : Int} {b : Nat} (h0 : 0 < j) (h1 : Sm b j) (h2 : b ≤ 9000) : DivOk j := ⟨h0, h1.mono h2⟩
theorem PowOk.s {i j : Int} (h0 : 0 ≤ j) (h1 : j ≤ 1000000) (h2 : -1000000000000000000 ≤ i) (h3 : i ≤ 1000000000000000000) : PowOk i j := ⟨h0, 64, sm64 h2 h3, by omega⟩
/-! ### the pen after at most n draws -/
structure Pk (n : Int) (t : Ts) : Prop where
  c : t.cells.length ≤ 63
  a0 : 0 ≤ t.at'
  a1 : t.at' ≤ n
  l : 0 ≤ t.left
  tp : t.tape = false
theorem Pk.mono {n m : Int} {t : Ts} (p : Pk n t) (h : n ≤ m) : Pk m t := ⟨p.c, p.a0, Int.le_trans p.a1 h, p.l, p.tp⟩
theorem map_get {xs : List Int} {i : Nat} {d : D} (h : (xs.map D.int)[i]? = some d) : ∃ x, xs[i]? = some x ∧ d = .int x := by
  rw [List.getElem?_map] at h
  cases q : xs[i]? with
  | none => rw [q] at h; cases h
  | some j => rw [q] at h; cases h; exact ⟨j, rfl, rfl⟩
end Q
/-! MPen -/
namespace Q
open PySem
/-! ### the pen -/
/-! far numbers -/
end Q
/-! MSig -/
namespace Q
open PySem
/-! ### signs by a base -/
theorem ediv_toNat_lt {b x : Int} (h : 0 < x ∧ 2 ≤ b) : (x / b).toNat < x.toNat := by
  have h1 : x / b < x := Int.ediv_lt_of_lt_mul (by omega) (by
    have := Int.mul_le_mul_of_nonneg_left h.2 (Int.le_of_lt h.1)
    omega)
  have h2 : 0 ≤ x / b := Int.ediv_nonneg (by omega) (by omega)
  omega
def sigs (b x : Int) : List Int := if h : 0 < x ∧ 2 ≤ b then sigs b (x / b) ++ [x % b] else []
termination_by x.toNat
decreasing_by exact ediv_toNat_lt h
def heap (b x : Int) : Int := if h : 0 < x ∧ 2 ≤ b then x / b + heap b (x / b) else 0
termination_by x.toNat
decreasing_by exact ediv_toNat_lt h
theorem heap_pos {b x : Int} (h : 0 < x) (hb : 2 ≤ b) : heap b x = x / b + heap b (x / b) := by
  rw [heap, dif_pos ⟨h, hb⟩]
theorem heap_zero {b x : Int} (h : ¬ 0 < x) : heap b x = 0 := by
  rw [heap, dif_neg (fun z => h z.1)]
/-! the program's -/
def sp_heap_of : PSp := fun ds t P => ∃ x b, ds = [.int x, .int b] ∧ 2 ≤ b ∧ b < 1000000000 ∧ P (.int (heap b x)) t
theorem len_heap_of (as : List D) (t : Ts) (P : D → Ts → Prop) (h : sp_heap_of as t P) : as.length = 2 := by obtain ⟨_, _, rfl, _⟩ := h; rfl
def d_heap_of : DS := (dSeq (dAsg (dC (.int 0)) (gName 2)) (dSeq (dWhile (dB (dOp oGt (dVar 0) (dC (.int 0)))) (dSeq (dAug 0 oDiv (dVar 1)) (dSeq (dAug 2 oAddI (dVar 0)) dNext))) (dSeq (dRet (dVar 2)) dNext)))
theorem d_heap_of_ok (as : List D) (t : Ts) (P : D → Ts → Prop) (h : sp_heap_of as t P) : d_heap_of (endsOf P) (start0 ["number", "base", "found"] as) t := by
  obtain ⟨x, b, rfl, hb, hb', k⟩ := h
  conv => whnf
  refine ⟨fun e m => ∃ y n, e = [.val (.int y), .val (.int b), .val (.int n)] ∧ m = t ∧ heap b x = n + heap b y, fun e m => match e with | .val (.int y) :: _ => y.toNat | _ => 0, ⟨x, 0, rfl, rfl, by simp⟩, fun e m hI => ?_⟩
  obtain ⟨y, n, rfl, rfl, hq⟩ := hI
  conv => whnf
  refine Br.mk (fun hc => ?_) (fun hc => ?_)
  · have hc : 0 < y := of_decide_eq_true hc
    conv => whnf
    refine ⟨.s (by omega) (by omega), ?_⟩
    conv => whnf
    refine ⟨⟨y / b, n + y / b, rfl, rfl, ?_⟩, ediv_toNat_lt ⟨hc, hb⟩⟩
    rw [hq, heap_pos hc hb]
    omega
  · have hc : ¬ 0 < y := of_decide_eq_false hc
    conv => whnf
    rw [heap_zero hc] at hq
    rw [show n = heap b x by omega]
    exact k
end Q
/-! MHous -/
namespace Q
open PySem
/-! ### the row: last places, from the plain law -/
/-- the beginning's sums, each less one -/
def Su (bs : List Int) (j : Int) : Int := ((bs.take j.toNat).map (· - 1)).sum
structure Hou (b : Int) (bs : List Int) : Prop where
  b2 : 2 ≤ b
  b30 : b ≤ 30
  len : (bs.length : Int) = b - 1
  pos : ∀ x ∈ bs, 1 ≤ x
def Re (bs : List Int) : Int := Su bs bs.length
def Lp (b : Int) (bs : List Int) (n : Int) : Int := if h : 0 < n ∧ 2 ≤ b then (if n < b then n + Su bs n else Lp b bs (n / b) + n + Re bs) else 0
termination_by n.toNat
decreasing_by exact ediv_toNat_lt h
theorem Lp_le0 {b : Int} {bs : List Int} {n : Int} (h : n ≤ 0) : Lp b bs n = 0 := by
  rw [Lp, dif_neg (fun z => by omega)]
theorem Lp_lt {b : Int} {bs : List Int} {n : Int} (hb : 2 ≤ b) (h : 0 < n) (h2 : n < b) : Lp b bs n = n + Su bs n := by
  rw [Lp, dif_pos ⟨h, hb⟩, if_pos h2]
theorem Lp_ge {b : Int} {bs : List Int} {n : Int} (hb : 2 ≤ b) (h2 : b ≤ n) : Lp b bs n = Lp b bs (n / b) + n + Re bs := by
  rw [Lp, dif_pos ⟨by omega, hb⟩, if_neg (by omega)]
section
variable {b : Int} {bs : List Int}
theorem Hou.l0 (h : Hou b bs) : 0 < bs.length := by have := h.len; have := h.b2; omega
theorem Su_zero : Su bs 0 = 0 := by simp [Su]
theorem Su_succ {j : Int} (h0 : 0 ≤ j) (h1 : j < bs.length) : Su bs (j + 1) = Su bs j + bs.getD j.toNat 0 - 1 := by
  unfold Su
  have e : (j + 1).toNat = j.toNat + 1 := by omega
  have hj : j.toNat < bs.length := by omega
  rw [e, List.take_add_one, List.getElem?_eq_getElem hj, List.map_append, List.sum_append, List.getD_eq_getElem?_getD, List.getElem?_eq_getElem hj]
  simp
  omega
theorem Hou.at (h : Hou b bs) {j : Int} (h0 : 0 ≤ j) (h1 : j < bs.length) : 1 ≤ bs.getD j.toNat 0 := by
  have hj : j.toNat < bs.length := by omega
  rw [List.getD_eq_getElem?_getD, List.getElem?_eq_getElem hj]
  exact h.pos _ (List.getElem_mem hj)
/-- the row within the row, from b - 1 on -/
theorem Lp_rec (h : Hou b bs) {n : Int} (hn : b - 1 ≤ n) : Lp b bs n = Lp b bs (n / b) + n + Re bs := by
  have hb := h.b2
  by_cases h1 : b ≤ n
  · exact Lp_ge hb h1
  · have e : n = b - 1 := by omega
    subst e
    rw [Lp_lt hb (by omega) (by omega), Int.ediv_eq_zero_of_lt (by omega) (by omega), Lp_le0 (Int.le_refl 0)]
    have : Su bs (b - 1) = Re bs := by rw [Re, h.len]
    omega
/-- how many times a number is said -/
def Ti (b : Int) (bs : List Int) (n : Int) : Int := Lp b bs n - Lp b bs (n - 1)
theorem Ti_lt (h : Hou b bs) {n : Int} (h0 : 1 ≤ n) (h1 : n < b) : Ti b bs n = bs.getD (n - 1).toNat 0 := by
  have hb := h.b2
  have hl := h.len
  have e := Su_succ (bs := bs) (j := n - 1) (by omega) (by omega)
  rw [show n - 1 + 1 = n by omega] at e
  unfold Ti
  rw [Lp_lt hb (by omega) h1]
  by_cases h2 : n = 1
  · subst h2
    rw [Lp_le0 (by decide)]
    rw [show (1 : Int) - 1 = 0 by decide, Su_zero] at e
    simp at e ⊢
    omega
  · rw [Lp_lt hb (by omega) (by omega)]
    omega
theorem Ti_ge (h : Hou b bs) {n : Int} (h1 : b ≤ n) : Ti b bs n = 1 + (Lp b bs (n / b) - Lp b bs ((n - 1) / b)) := by
  unfold Ti
  rw [Lp_rec h (n := n) (by omega), Lp_rec h (n := n - 1) (by omega)]
  omega
theorem div_pred {b n : Int} (hb : 2 ≤ b) (h : ¬ n % b = 0) : (n - 1) / b = n / b := by
  have h1 := Int.mul_ediv_add_emod n b
  have h2 := Int.emod_nonneg n (show b ≠ 0 by omega)
  have h3 := Int.emod_lt_of_pos n (show 0 < b by omega)
  refine Int.ediv_emod_unique (show 0 < b by omega) (r := n % b - 1) |>.mpr ⟨by omega, by omega, by omega⟩ |>.1
theorem div_predm {b u : Int} (hb : 2 ≤ b) : (b * u - 1) / b = u - 1 := by
  refine Int.ediv_emod_unique (show 0 < b by omega) (r := b - 1) |>.mpr ⟨by rw [Int.mul_sub]; omega, by omega, by omega⟩ |>.1
theorem Ti_one (h : Hou b bs) {n : Int} (h1 : b ≤ n) (h2 : ¬ n % b = 0) : Ti b bs n = 1 := by
  rw [Ti_ge h h1, div_pred h.b2 h2]
  omega
theorem Ti_mul (h : Hou b bs) {u : Int} (h1 : 1 ≤ u) : Ti b bs (b * u) = Ti b bs u + 1 := by
  have hb := h.b2
  have : b ≤ b * u := by
    have := Int.mul_le_mul_of_nonneg_left h1 (show 0 ≤ b by omega)
    omega
  rw [Ti_ge h this, div_predm hb, Int.mul_ediv_cancel_left _ (by omega)]
  unfold Ti
  omega
theorem Ti_pos (h : Hou b bs) : ∀ (k : Nat) (n : Int), n.toNat ≤ k → 1 ≤ n → 1 ≤ Ti b bs n
  | 0, n, h0, h1 => by omega
  | k + 1, n, h0, h1 => by
    have hb := h.b2
    by_cases h2 : n < b
    · rw [Ti_lt h h1 h2]
      have := h.len
      exact h.at (by omega) (by omega)
    · by_cases h3 : n % b = 0
      · have h4 := Int.mul_ediv_add_emod n b
        have h5 : n = b * (n / b) := by omega
        have h6 : 1 ≤ n / b := by
          rcases Int.lt_or_le 0 (n / b) with h | h
          · omega
          · have := Int.ediv_nonneg (show 0 ≤ n by omega) (show 0 ≤ b by omega)
            rw [show n / b = 0 by omega] at h5
            omega
        have h7 := ediv_toNat_lt (b := b) (x := n) ⟨by omega, hb⟩
        rw [h5, Ti_mul h h6]
        have := Ti_pos h k (n / b) (by omega) h6
        omega
      · rw [Ti_one h (by omega) h3]
        omega
theorem Lp_step (h : Hou b bs) {n : Int} (h1 : 1 ≤ n) : Lp b bs (n - 1) + 1 ≤ Lp b bs n := by
  have := Ti_pos h _ n (Nat.le_refl _) h1
  unfold Ti at this
  omega
theorem Lp_mono' (h : Hou b bs) : ∀ (k : Nat) (n : Int), 0 ≤ n → Lp b bs n + k ≤ Lp b bs (n + k)
  | 0, n, _ => by simp
  | k + 1, n, h0 => by
    have h1 := Lp_mono' h k n h0
    have h2 := Lp_step h (n := n + k + 1) (by omega)
    rw [show n + k + 1 - 1 = n + k by omega] at h2
    rw [show n + ((k + 1 : Nat) : Int) = n + k + 1 by omega]
    omega
theorem Lp_lt_of (h : Hou b bs) {m n : Int} (h0 : 0 ≤ m) (h1 : m < n) : Lp b bs m < Lp b bs n := by
  have := Lp_mono' h (n - m).toNat m h0
  rw [show m + ((n - m).toNat : Int) = n by omega] at this
  omega
theorem Lp_le_of (h : Hou b bs) {m n : Int} (h0 : 0 ≤ m) (h1 : m ≤ n) : Lp b bs m ≤ Lp b bs n := by
  rcases Int.lt_or_eq_of_le h1 with z | z
  · exact Int.le_of_lt (Lp_lt_of h h0 z)
  · rw [z]; exact Int.le_refl _
theorem Lp_ge_self (h : Hou b bs) {n : Int} (h0 : 0 ≤ n) : n ≤ Lp b bs n := by
  have := Lp_mono' h n.toNat 0 (Int.le_refl 0)
  rw [Lp_le0 (Int.le_refl 0), show 0 + (n.toNat : Int) = n by omega] at this
  omega
/-! what is said at a place -/
structure Sa (b : Int) (bs : List Int) (p m : Int) : Prop where
  m1 : 1 ≤ m
  lo : Lp b bs (m - 1) < p
  hi : p ≤ Lp b bs m
theorem Sa.uniq (h : Hou b bs) {p m n : Int} (x : Sa b bs p m) (y : Sa b bs p n) : m = n := by
  rcases Int.lt_trichotomy m n with z | z | z
  · have := Lp_le_of h (m := m) (n := n - 1) (by have := x.m1; omega) (by omega)
    have := x.hi; have := y.lo
    omega
  · exact z
  · have := Lp_le_of h (m := n) (n := m - 1) (by have := y.m1; omega) (by omega)
    have := y.hi; have := x.lo
    omega
theorem Sa.ex' (h : Hou b bs) : ∀ (k : Nat) (p : Int), 1 ≤ p → p ≤ Lp b bs k → ∃ m, Sa b bs p m
  | 0, p, h1, h2 => by
    rw [show ((0 : Nat) : Int) = 0 from rfl, Lp_le0 (Int.le_refl 0)] at h2
    omega
  | k + 1, p, h1, h2 => by
    by_cases h3 : p ≤ Lp b bs k
    · exact Sa.ex' h k p h1 h3
    · exact ⟨(k : Int) + 1, by omega, by rw [show (k : Int) + 1 - 1 = k by omega]; omega, by simpa using h2⟩
theorem Sa.ex (h : Hou b bs) {p : Int} (h1 : 1 ≤ p) : ∃ m, Sa b bs p m := by
  refine Sa.ex' h p.toNat p h1 ?_
  have := Lp_ge_self h (n := p) (by omega)
  rwa [show (p.toNat : Int) = p by omega]
end
end Q
/-! MHou2 -/
namespace Q
open PySem
section
variable {b : Int} {bs : List Int}
/-! ### the last place by signs -/
/-! ### numbers of e + 1 signs whose first is c -/
theorem in_div {c m : Int} {e : Nat} (hb : 2 ≤ b) (h1 : c * b ^ (e + 1) ≤ m) (h2 : m < (c + 1) * b ^ (e + 1)) : c * b ^ e ≤ m / b ∧ m / b < (c + 1) * b ^ e := by
  rw [Int.pow_succ, ← Int.mul_assoc] at h1 h2
  exact ⟨(Int.le_ediv_iff_mul_le (by omega)).mpr h1, (Int.ediv_lt_iff_lt_mul (by omega)).mpr h2⟩
theorem pow_pos' (hb : 2 ≤ b) (e : Nat) : 0 < b ^ e := Int.pow_pos (by omega)
theorem Lp_in (h : Hou b bs) {c : Int} (c1 : 1 ≤ c) (c2 : c < b) : ∀ (e : Nat) (m : Int), c * b ^ e ≤ m → m < (c + 1) * b ^ e → Lp b bs m = m + heap b m + e * Re bs + Su bs c
  | 0, m, h1, h2 => by
    have hb := h.b2
    have e : m = c := by simp at h1 h2; omega
    subst e
    rw [Lp_lt hb (by omega) c2, heap_pos (by omega) hb, Int.ediv_eq_zero_of_lt (by omega) c2, heap_zero (by decide)]
    simp
  | e + 1, m, h1, h2 => by
    have hb := h.b2
    have h3 := in_div hb h1 h2
    have h4 := pow_pos' hb e
    have h5 : 0 < c * b ^ e := Int.mul_pos (by omega) h4
    have h6 : b ≤ m := by
      have := (Int.le_ediv_iff_mul_le (show 0 < b by omega)).mp (show 1 ≤ m / b by omega)
      omega
    rw [Lp_ge hb h6, Lp_in h c1 c2 e (m / b) h3.1 h3.2, heap_pos (x := m) (by omega) hb]
    have : ((e + 1 : Nat) : Int) = (e : Int) + 1 := by omega
    rw [this, Int.add_mul]
    omega
theorem heap_in (hb : 2 ≤ b) {c : Int} (c1 : 1 ≤ c) (c2 : c < b) : ∀ (e : Nat) (m : Int), c * b ^ e ≤ m → m < (c + 1) * b ^ e → m - (b - 1) * (e + 1) ≤ (b - 1) * heap b m ∧ (b - 1) * heap b m ≤ m
  | 0, m, h1, h2 => by
    have e : m = c := by simp at h1 h2; omega
    subst e
    rw [heap_pos (by omega) hb, Int.ediv_eq_zero_of_lt (by omega) c2, heap_zero (by decide)]
    simp
    omega
  | e + 1, m, h1, h2 => by
    have h3 := in_div hb h1 h2
    have h4 := pow_pos' hb e
    have h5 : 0 < c * b ^ e := Int.mul_pos (by omega) h4
    have h6 : b ≤ m := by
      have := (Int.le_ediv_iff_mul_le (show 0 < b by omega)).mp (show 1 ≤ m / b by omega)
      omega
    have h7 := heap_in hb c1 c2 e (m / b) h3.1 h3.2
    rw [heap_pos (x := m) (by omega) hb, Int.mul_add (b - 1) (m / b)]
    have h8 := Int.mul_ediv_add_emod m b
    have h9 := Int.emod_nonneg m (show b ≠ 0 by omega)
    have h10 := Int.emod_lt_of_pos m (show 0 < b by omega)
    have h11 : (b - 1) * (m / b) = b * (m / b) - m / b := by rw [Int.sub_mul, Int.one_mul]
    have h12 : (b - 1) * (((e + 1 : Nat) : Int) + 1) = (b - 1) * ((e : Int) + 1) + (b - 1) := by
      rw [show (((e + 1 : Nat) : Int) + 1) = ((e : Int) + 1) + 1 by omega, Int.mul_add, Int.mul_one]
    rw [h12, h11]
    omega
/-- the last place ahead of a sign's multiple of a power -/
theorem Lp_ahead (h : Hou b bs) {f : Int} (f1 : 1 ≤ f) (f2 : f < b) : ∀ s : Nat, Lp b bs ((f + 1) * b ^ s - 1) = ((f + 1) * b ^ s - 1) + ((f + 1) * b ^ s - 1 - (f + (b - 1) * s)) / (b - 1) + s * Re bs + Su bs f
  | 0 => by
    have hb := h.b2
    simp
    rw [Lp_lt hb (by omega) f2]
  | s + 1 => by
    have hb := h.b2
    have hp := pow_pos' hb s
    have e1 : (f + 1) * b ^ (s + 1) = b * ((f + 1) * b ^ s) := by rw [Int.pow_succ, ← Int.mul_assoc, Int.mul_comm]
    have hu : 1 ≤ (f + 1) * b ^ s := by have := Int.mul_pos (show 0 < f + 1 by omega) hp; omega
    have hbu : b ≤ b * ((f + 1) * b ^ s) := by have := Int.mul_le_mul_of_nonneg_left hu (show 0 ≤ b by omega); omega
    have ih := Lp_ahead h f1 f2 s
    rw [e1, Lp_rec h (by omega), div_predm hb]
    generalize (f + 1) * b ^ s = u at *
    rw [ih]
    have e2 : b * u - 1 - (f + (b - 1) * ((s + 1 : Nat) : Int)) = (u - 1 - (f + (b - 1) * s)) + (u - 1) * (b - 1) := by
      rw [show ((s + 1 : Nat) : Int) = (s : Int) + 1 by omega, Int.mul_add, Int.mul_one, Int.sub_mul u 1 (b - 1), Int.mul_sub u b 1, Int.mul_comm b u]
      omega
    rw [e2, Int.add_mul_ediv_right _ _ (by omega), show ((s + 1 : Nat) : Int) = (s : Int) + 1 by omega, Int.add_mul]
    omega
/-! ### the sums, as the house keeps them -/
theorem sumsOf_get : ∀ (bs : List Int) (s : Int) (i : Nat), i < bs.length → (sumsOf s bs)[i]? = some (s + Su bs (i + 1))
  | [], s, i, h => by simp at h
  | c :: r, s, 0, h => by
    show some (s + c - 1) = _
    simp [Su]
    omega
  | c :: r, s, i + 1, h => by
    show (sumsOf (s + c - 1) r)[i]? = _
    rw [sumsOf_get r (s + c - 1) i (by simpa using h)]
    have : Su (c :: r) (((i + 1 : Nat) : Int) + 1) = (c - 1) + Su r ((i : Int) + 1) := by
      unfold Su
      rw [show ((((i + 1 : Nat) : Int) + 1).toNat) = ((i : Int) + 1).toNat + 1 by omega, List.take_succ_cons]
      simp
    rw [this]
    congr 1
    omega
theorem sumsOf_len' : ∀ (bs : List Int) (s : Int), (sumsOf s bs).length = bs.length
  | [], _ => rfl
  | c :: r, s => by
    show (sumsOf (s + c - 1) r).length + 1 = r.length + 1
    rw [sumsOf_len' r]
theorem sums_at (h : Hou b bs) {j : Int} (h0 : 1 ≤ j) (h1 : j < b) : atI ((sumsOf 0 bs).map .int) (j - 1) = some (.int (Su bs j)) := by
  have hl := h.len
  refine atI_nat (by omega) ?_
  rw [List.getElem?_map, sumsOf_get bs 0 (j - 1).toNat (by omega)]
  rw [show (((j - 1).toNat : Int) + 1) = j by omega]
  simp
theorem sums_last (h : Hou b bs) : atI ((sumsOf 0 bs).map .int) (-1) = some (.int (Re bs)) := by
  have hl := h.l0
  unfold atI
  rw [if_neg (by decide), if_pos (by rw [List.length_map, sumsOf_len']; omega), List.getElem?_map]
  rw [show ((-1 : Int) + (((sumsOf 0 bs).map D.int).length : Int)).toNat = bs.length - 1 by rw [List.length_map, sumsOf_len']; omega, sumsOf_get bs 0 _ (by omega)]
  rw [show (((bs.length - 1 : Nat) : Int) + 1) = bs.length by omega]
  simp [Re]
end
end Q
/-! MHouse -/
namespace Q
open PySem
/-! ### what is a whole number, a list .. -/
def isInt : D → Bool
  | .int _ => true
  | _ => false
def isCount : D → Bool
  | .int i => decide (0 < i)
  | _ => false
def isBase : D → Bool
  | .int i => decide (2 ≤ i ∧ i ≤ 30)
  | _ => false
def isList : D → Bool
  | .lst _ => true
  | .tup _ => true
  | _ => false
def isBeg (b : Int) : D → Bool
  | .lst l => decide ((l.length : Int) = b - 1) && l.all isCount
  | .tup l => decide ((l.length : Int) = b - 1) && l.all isCount
  | _ => false
def tnOk (d : D) : Prop := ∃ n, tn d = some n
def sp_is_whole : PSp := fun ds t P => ∃ d, ds = [d] ∧ tnOk d ∧ P (.bl (isInt d)) t
def sp_is_count : PSp := fun ds t P => ∃ d, ds = [d] ∧ tnOk d ∧ P (.bl (isCount d)) t
def sp_is_base : PSp := fun ds t P => ∃ d, ds = [d] ∧ tnOk d ∧ P (.bl (isBase d)) t
def sp_is_listing : PSp := fun ds t P => ∃ d, ds = [d] ∧ tnOk d ∧ P (.bl (isList d)) t
def sp_is_beginning : PSp := fun ds t P => ∃ b d, ds = [.int b, d] ∧ tnOk d ∧ (∀ l, d = .lst l ∨ d = .tup l → l.length ≤ 1000000 ∧ ∀ x ∈ l, tnOk x) ∧ P (.bl (isBeg b d)) t
theorem len_is_whole (as : List D) (t : Ts) (P : D → Ts → Prop) (h : sp_is_whole as t P) : as.length = 1 := by obtain ⟨_, rfl, _⟩ := h; rfl
theorem len_is_count (as : List D) (t : Ts) (P : D → Ts → Prop) (h : sp_is_count as t P) : as.length = 1 := by obtain ⟨_, rfl, _⟩ := h; rfl
theorem len_is_base (as : List D) (t : Ts) (P : D → Ts → Prop) (h : sp_is_base as t P) : as.length = 1 := by obtain ⟨_, rfl, _⟩ := h; rfl
theorem len_is_listing (as : List D) (t : Ts) (P : D → Ts → Prop) (h : sp_is_listing as t P) : as.length = 1 := by obtain ⟨_, rfl, _⟩ := h; rfl
theorem len_is_beginning (as : List D) (t : Ts) (P : D → Ts → Prop) (h : sp_is_beginning as t P) : as.length = 2 := by obtain ⟨_, _, rfl, _⟩ := h; rfl
def d_is_whole : DS := (dSeq (dRet (dAndV (dIsi [.int] (dVar 0)) (dNotV (dIsi [.bl] (dVar 0))))) dNext)
def d_is_count : DS := (dSeq (dRet (dAndV (dCall sp_is_whole [] (dCons (dVar 0) dNil)) (dOp oGt (dVar 0) (dC (.int 0))))) dNext)
def d_is_base : DS := (dSeq (dRet (dAndV (dCall sp_is_whole [] (dCons (dVar 0) dNil)) (dChain oLe oLe (dC (.int 2)) (dVar 0) (dC (.int 30))))) dNext)
def d_is_listing : DS := (dSeq (dRet (dIsi [.lst, .tup] (dVar 0))) dNext)
def d_is_beginning : DS := (dSeq (dIf (dOr (dNot (dB (dCall sp_is_listing [] (dCons (dVar 1) dNil)))) (dB (dOp oNe (dCB bLen (dCons (dVar 1) dNil)) (dOp oSub (dVar 0) (dC (.int 1)))))) (dSeq (dRet (dC (.bl false))) dNext) dNext) (dSeq (dRet (dCB bAll (dCons (dLc [2] (iSeq (dVar 1)) (gName 2) dYes (dCall sp_is_count [] (dCons (dVar 2) dNil))) dNil))) dNext))
theorem d_is_whole_ok (as : List D) (t : Ts) (P : D → Ts → Prop) (h : sp_is_whole as t P) : d_is_whole (endsOf P) (start0 ["thing"] as) t := by
  obtain ⟨d, rfl, ⟨n, hn⟩, k⟩ := h
  cases d <;> first | exact k | cases hn
theorem d_is_count_ok (as : List D) (t : Ts) (P : D → Ts → Prop) (h : sp_is_count as t P) : d_is_count (endsOf P) (start0 ["thing"] as) t := by
  obtain ⟨d, rfl, hn, k⟩ := h
  conv => whnf
  refine ⟨d, rfl, hn, ?_⟩
  cases d <;> exact k
theorem d_is_base_ok (as : List D) (t : Ts) (P : D → Ts → Prop) (h : sp_is_base as t P) : d_is_base (endsOf P) (start0 ["thing"] as) t := by
  obtain ⟨d, rfl, hn, k⟩ := h
  conv => whnf
  refine ⟨d, rfl, hn, ?_⟩
  cases d with
  | int i =>
    conv => whnf
    refine Br.mk (fun h1 => ?_) (fun h1 => ?_)
    · have h1 : 2 ≤ i := of_decide_eq_true h1
      conv => whnf
      have e : isBase (.int i) = decide (i ≤ 30) := by
        show decide (2 ≤ i ∧ i ≤ 30) = _
        simp [h1]
      rw [e] at k
      exact k
    · have h1 : ¬ 2 ≤ i := of_decide_eq_false h1
      conv => whnf
      have e : isBase (.int i) = false := by
        show decide (2 ≤ i ∧ i ≤ 30) = _
        simp [h1]
      rw [e] at k
      exact k
  | _ => exact k
theorem d_is_listing_ok (as : List D) (t : Ts) (P : D → Ts → Prop) (h : sp_is_listing as t P) : d_is_listing (endsOf P) (start0 ["thing"] as) t := by
  obtain ⟨d, rfl, ⟨n, hn⟩, k⟩ := h
  cases d <;> first | exact k | cases hn
theorem bls_mapf (f : D → Bool) : ∀ l : List D, bls (l.map fun x => .bl (f x)) = some (l.map f)
  | [] => rfl
  | x :: l => by simp [bls, bls_mapf f l]
theorem all_id {α : Type} (f : α → Bool) (l : List α) : (l.map f).all id = l.all f := by
  induction l with
  | nil => rfl
  | cons a l ih => rw [List.map_cons, List.all_cons, List.all_cons, ih]; rfl
theorem take_map {α β : Type} (f : α → β) {l : List α} {i : Nat} {x : α} (h : l[i]? = some x) : (l.take i).map f ++ [f x] = (l.take (i + 1)).map f := by
  rw [List.take_add_one, h]
  simp
theorem d_is_beginning_ok (as : List D) (t : Ts) (P : D → Ts → Prop) (h : sp_is_beginning as t P) : d_is_beginning (endsOf P) (start0 ["base", "thing", "many"] as) t := by
  obtain ⟨b, d, rfl, hn, hl, k⟩ := h
  conv => whnf
  refine ⟨d, rfl, hn, ?_⟩
  cases d with
  | lst l =>
    conv => whnf
    refine Br.mk (fun h1 => ?_) (fun h1 => ?_)
    · conv => whnf
      have e : isBeg b (.lst l) = false := by
        show (decide ((l.length : Int) = b - 1) && _) = _
        simp at h1
        simp [h1]
      rw [e] at k
      exact k
    · have h1 : (l.length : Int) = b - 1 := by simpa using h1
      obtain ⟨hl1, hl2⟩ := hl l (.inl rfl)
      conv => whnf
      refine ⟨fun i acc m => t = m ∧ acc = (l.take i).map fun x => .bl (isCount x), ⟨rfl, rfl⟩, fun i x acc m hx hI => ?_, fun acc m hI => ?_⟩
      · obtain ⟨rfl, rfl⟩ := hI
        conv => whnf
        refine ⟨rfl, ?_⟩
        conv => whnf
        refine ⟨x, rfl, hl2 x (List.mem_of_getElem? hx), ?_⟩
        refine ⟨by rw [List.length_map, List.length_take]; unfold zLen; omega, rfl, take_map (fun x => D.bl (isCount x)) hx⟩
      · obtain ⟨rfl, rfl⟩ := hI
        rw [List.take_length]
        refine ⟨_, bls_mapf isCount l, ?_⟩
        rw [all_id]
        have e : isBeg b (.lst l) = l.all isCount := by
          show (decide ((l.length : Int) = b - 1) && _) = _
          simp [h1]
        rw [e] at k
        exact k
  | tup l =>
    conv => whnf
    refine Br.mk (fun h1 => ?_) (fun h1 => ?_)
    · conv => whnf
      have e : isBeg b (.tup l) = false := by
        show (decide ((l.length : Int) = b - 1) && _) = _
        simp at h1
        simp [h1]
      rw [e] at k
      exact k
    · have h1 : (l.length : Int) = b - 1 := by simpa using h1
      obtain ⟨hl1, hl2⟩ := hl l (.inr rfl)
      conv => whnf
      refine ⟨fun i acc m => t = m ∧ acc = (l.take i).map fun x => .bl (isCount x), ⟨rfl, rfl⟩, fun i x acc m hx hI => ?_, fun acc m hI => ?_⟩
      · obtain ⟨rfl, rfl⟩ := hI
        conv => whnf
        refine ⟨rfl, ?_⟩
        conv => whnf
        refine ⟨x, rfl, hl2 x (List.mem_of_getElem? hx), ?_⟩
        refine ⟨by rw [List.length_map, List.length_take]; unfold zLen; omega, rfl, take_map (fun x => D.bl (isCount x)) hx⟩
      · obtain ⟨rfl, rfl⟩ := hI
        rw [List.take_length]
        refine ⟨_, bls_mapf isCount l, ?_⟩
        rw [all_id]
        have e : isBeg b (.tup l) = l.all isCount := by
          show (decide ((l.length : Int) = b - 1) && _) = _
          simp [h1]
        rw [e] at k
        exact k
  | _ => exact k
end Q
/-! MHse2 -/
namespace Q
open PySem
/-! ### the house -/
def hD (W : Cl) (b : Int) (bs : List Int) : D := .ins W.House ["kept_base", "kept_beginning", "sums"] [.int b, .lst (bs.map .int), .lst ((sumsOf 0 bs).map .int)]
def sp_House___init__ (W : Cl) : PSp := fun ds t P => ∃ b bs, (ds = [.int b, .lst (bs.map .int)] ∨ ds = [.int b, .tup (bs.map .int)]) ∧ Hou b bs ∧ P (hD W b bs) t
def sp_House_base (W : Cl) : PSp := fun ds t P => ∃ b bs, ds = [hD W b bs] ∧ P (.int b) t
def sp_House_ahead_of (W : Cl) : PSp := fun ds t P => ∃ b bs c, ∃ e : Nat, ds = [hD W b bs, .int (b ^ e), .int e, .int c] ∧ e ≤ 1000001 ∧ Hou b bs ∧ 1 ≤ c ∧ c < b ∧ P (.int (Lp b bs (c * b ^ e - 1))) t
def sp_House_said (W : Cl) : PSp := fun ds t P => ∃ b bs p, ds = [hD W b bs, .int p] ∧ Hou b bs ∧ 1 ≤ p ∧ Sm 1000000 p ∧ ∀ m, Sa b bs p m → P (.int m) t
section
variable (W : Cl) (as : List D) (t : Ts) (P : D → Ts → Prop)
theorem len_House___init__ (h : sp_House___init__ W as t P) : as.length + 1 = 3 := by
  obtain ⟨_, _, rfl | rfl, _⟩ := h <;> rfl
theorem len_House_base (h : sp_House_base W as t P) : as.length = 1 := by obtain ⟨_, _, rfl, _⟩ := h; rfl
theorem len_House_ahead_of (h : sp_House_ahead_of W as t P) : as.length = 4 := by obtain ⟨_, _, _, _, rfl, _⟩ := h; rfl
theorem len_House_said (h : sp_House_said W as t P) : as.length = 2 := by obtain ⟨_, _, _, rfl, _⟩ := h; rfl
end
theorem nopens_ints : ∀ l : List Int, nopens (l.map .int) = true
  | [] => rfl
  | a :: l => by simp [nopens, nopen, nopens_ints l]
theorem np_House___init__ (W : Cl) (as : List D) (t : Ts) (P : D → Ts → Prop) (h : sp_House___init__ W as t P) : nopens as = true := by
  obtain ⟨_, _, rfl | rfl, _⟩ := h <;> simp [nopens, nopen, nopens_ints]
def d_House_sumsE (W : Cl) : DE := (dOp oAdd (dOp oSub (dVar 3) (dC (.int 1))) (dIfE (dB (dOp oNe (dFld W.House "sums" (dVar 0)) (dLst dNil))) (dOp oIx (dFld W.House "sums" (dVar 0)) (dUn oNeg (dC (.int 1)))) (dC (.int 0))))
def d_House___init__ (W : Cl) : IS := (iThen (iGuard (dNot (dB (dCall sp_is_base [] (dCons (dVar 1) dNil))))) (iThen (iGuard (dNot (dB (dCall sp_is_beginning [] (dCons (dVar 1) (dCons (dVar 2) dNil)))))) (iThen (iSet "kept_base" (dVar 1)) (iThen (iSet "kept_beginning" (dCB bList (dCons (dVar 2) dNil))) (iSums 2 3)))))
def d_House_ahead_of (W : Cl) : DS := (dSeq (dAsg (dFld W.House "kept_base" (dVar 0)) (gName 4)) (dSeq (dAsg (dOp oSub (dOp oMul (dVar 3) (dVar 1)) (dC (.int 1))) (gName 5)) (dSeq (dIf (dB (dOp oEq (dVar 5) (dC (.int 0)))) (dSeq (dRet (dC (.int 0))) dNext) dNext) (dSeq (dIf (dB (dOp oEq (dVar 3) (dC (.int 1)))) (dSeq (dPar 7 8 (dCons (dOp oSub (dVar 2) (dC (.int 1))) (dCons (dOp oSub (dVar 4) (dC (.int 1))) dNil))) dNext) (dSeq (dPar 7 8 (dCons (dVar 2) (dCons (dOp oSub (dVar 3) (dC (.int 1))) dNil))) dNext)) (dSeq (dAsg (dOp oAdd (dVar 8) (dOp oMul (dOp oSub (dVar 4) (dC (.int 1))) (dVar 7))) (gName 6)) (dSeq (dRet (dOp oAdd (dOp oAdd (dOp oAdd (dVar 5) (dOp oDiv (dOp oSub (dVar 5) (dVar 6)) (dOp oSub (dVar 4) (dC (.int 1))))) (dOp oMul (dVar 7) (dOp oIx (dFld W.House "sums" (dVar 0)) (dUn oNeg (dC (.int 1)))))) (dOp oIx (dFld W.House "sums" (dVar 0)) (dOp oSub (dVar 8) (dC (.int 1)))))) dNext))))))
def d_House_said (W : Cl) : DS := (dSeq (dAsg (dTup (dCons (dFld W.House "kept_base" (dVar 0)) (dCons (dC (.int 0)) (dCons (dC (.int 1)) (dCons (dC (.int 1)) dNil))))) (gTup 4 (gCons (gName 5) (gCons (gName 6) (gCons (gName 7) (gCons (gName 8) gNil)))))) (dSeq (dWhile (dB (dOp oLt (dMeth W.House "ahead_of" (sp_House_ahead_of W) [] (dVar 0) (dCons (dOp oMul (dVar 7) (dVar 5)) (dCons (dOp oAdd (dVar 6) (dC (.int 1))) (dCons (dC (.int 1)) dNil)))) (dVar 1))) (dSeq (dAug 6 oAddI (dC (.int 1))) (dSeq (dAug 7 oMulI (dVar 5)) dNext))) (dSeq (dWhile (dAnd (dB (dOp oLt (dVar 8) (dOp oSub (dVar 5) (dC (.int 1))))) (dB (dOp oLt (dMeth W.House "ahead_of" (sp_House_ahead_of W) [] (dVar 0) (dCons (dVar 7) (dCons (dVar 6) (dCons (dOp oAdd (dVar 8) (dC (.int 1))) dNil)))) (dVar 1)))) (dSeq (dAug 8 oAddI (dC (.int 1))) dNext)) (dSeq (dAsg (dOp oSub (dOp oSub (dVar 1) (dOp oMul (dVar 6) (dOp oIx (dFld W.House "sums" (dVar 0)) (dUn oNeg (dC (.int 1)))))) (dOp oIx (dFld W.House "sums" (dVar 0)) (dOp oSub (dVar 8) (dC (.int 1))))) (gName 2)) (dSeq (dAsg (dOp oSub (dCB bMax (dCons (dOp oMul (dVar 8) (dVar 7)) (dCons (dOp oDiv (dOp oMul (dVar 2) (dOp oSub (dVar 5) (dC (.int 1)))) (dVar 5)) dNil))) (dC (.int 1))) (gName 3)) (dSeq (dAsg (dCB bMin (dCons (dOp oSub (dOp oMul (dOp oAdd (dVar 8) (dC (.int 1))) (dVar 7)) (dC (.int 1))) (dCons (dOp oAdd (dOp oAdd (dVar 3) (dVar 6)) (dC (.int 3))) dNil))) (gName 4)) (dSeq (dWhile (dB (dOp oGt (dOp oSub (dVar 4) (dVar 3)) (dC (.int 1)))) (dSeq (dAsg (dOp oDiv (dOp oAdd (dVar 3) (dVar 4)) (dC (.int 2))) (gName 9)) (dSeq (dIf (dB (dOp oLt (dOp oAdd (dVar 9) (dCall sp_heap_of [] (dCons (dVar 9) (dCons (dVar 5) dNil)))) (dVar 2))) (dSeq (dAsg (dVar 9) (gName 3)) dNext) (dSeq (dAsg (dVar 9) (gName 4)) dNext)) dNext))) (dSeq (dRet (dVar 4)) dNext))))))))
theorem sumsE_House (W : Cl) : SumsE W.House 3 (d_House_sumsE W) := by
  intro env t P ns l cur m h0 h1 h3 k
  match env, h0, h3 with
  | a0 :: a1 :: a2 :: a3 :: r, h0, h3 =>
  cases h0
  cases h3
  conv => whnf
  refine ⟨rfl, ?_⟩
  conv => whnf
  rw [h1]
  conv => whnf
  refine ⟨eqok_ints cur [], ?_⟩
  conv => whnf
  refine Br.mk (fun hc => ?_) (fun hc => ?_)
  · have hc : cur ≠ [] := deqn_t (b := []) hc
    conv => whnf
    refine ⟨rfl, ?_⟩
    conv => whnf
    rw [h1]
    conv => whnf
    have hl : 0 < cur.length := List.length_pos_iff.mpr hc
    refine ⟨.int (cur.getLastD 0), ?_, k⟩
    unfold atI
    rw [if_neg (by decide), if_pos (by rw [List.length_map]; omega), List.getElem?_map]
    rw [show ((-1 : Int) + ((cur.map D.int).length : Int)).toNat = cur.length - 1 by rw [List.length_map]; omega, List.getElem?_eq_getElem (by omega)]
    simp [List.getLastD_eq_getLast?, List.getLast?_eq_getElem?, List.getElem?_eq_getElem (show cur.length - 1 < cur.length by omega)]
  · have hc : cur = [] := deqn_f (b := []) hc
    subst hc
    exact k
theorem Hou.isBeg {b : Int} {bs : List Int} (h : Hou b bs) : bs.all (fun x => isCount (.int x)) = true := List.all_eq_true.mpr fun x hx => decide_eq_true (by have := h.pos x hx; omega)
theorem all_map_int (bs : List Int) : (bs.map D.int).all isCount = bs.all (fun x => isCount (.int x)) := by
  induction bs with
  | nil => rfl
  | cons a l ih => rw [List.map_cons, List.all_cons, List.all_cons, ih]
theorem beg_lst {b : Int} {bs : List Int} (h : Hou b bs) : isBeg b (.lst (bs.map .int)) = true := by
  show (decide (((bs.map D.int).length : Int) = b - 1) && (bs.map D.int).all isCount) = true
  rw [List.length_map, h.len, all_map_int, h.isBeg]
  simp
theorem beg_tup {b : Int} {bs : List Int} (h : Hou b bs) : isBeg b (.tup (bs.map .int)) = true := by
  show (decide (((bs.map D.int).length : Int) = b - 1) && (bs.map D.int).all isCount) = true
  rw [List.length_map, h.len, all_map_int, h.isBeg]
  simp
theorem tnOk_ints (bs : List Int) : ∀ x ∈ bs.map D.int, tnOk x := fun x hx => by
  obtain ⟨i, _, rfl⟩ := List.mem_map.mp hx
  exact ⟨_, rfl⟩
theorem d_House___init___ok (W : Cl) (as : List D) (t : Ts) (P : D → Ts → Prop) (x : Addr) (h : sp_House___init__ W as t P) : d_House___init__ W (fun ns l env t' => t' = t ∧ P (.ins W.House ns l) t) [] [] (startI x ["k", "beginning", "many"] as) t := by
  obtain ⟨b, bs, hd, hh, k⟩ := h
  have hl := hh.len
  have h2 := hh.b2
  have h30 := hh.b30
  rcases hd with rfl | rfl
  · conv => whnf
    refine ⟨_, rfl, ⟨_, rfl⟩, ?_⟩
    conv => whnf
    refine br_ne (⟨h2, h30⟩) ?_
    conv => whnf
    refine ⟨_, _, rfl, ⟨_, rfl⟩, fun l hl' => ?_, ?_⟩
    · rcases hl' with z | z
      · cases z
        exact ⟨by rw [List.length_map]; omega, tnOk_ints bs⟩
      · cases z
    rw [beg_lst hh]
    conv => whnf
    refine ⟨⟨rfl, by decide⟩, ?_⟩
    conv => whnf
    refine ⟨⟨rfl, by decide⟩, ?_⟩
    conv => whnf
    refine ⟨bs, rfl, by omega, ⟨rfl, by decide, (show 3 < 4 by decide)⟩, fun s => ⟨rfl, k⟩⟩
  · conv => whnf
    refine ⟨_, rfl, ⟨_, rfl⟩, ?_⟩
    conv => whnf
    refine br_ne (⟨h2, h30⟩) ?_
    conv => whnf
    refine ⟨_, _, rfl, ⟨_, rfl⟩, fun l hl' => ?_, ?_⟩
    · rcases hl' with z | z
      · cases z
      · cases z
        exact ⟨by rw [List.length_map]; omega, tnOk_ints bs⟩
    rw [beg_tup hh]
    conv => whnf
    refine ⟨⟨rfl, by decide⟩, ?_⟩
    conv => whnf
    refine ⟨⟨rfl, by decide⟩, ?_⟩
    conv => whnf
    refine ⟨bs, rfl, by omega, ⟨rfl, by decide, (show 3 < 4 by decide)⟩, fun s => ⟨rfl, k⟩⟩
section
variable (W : Cl) (as : List D) (t : Ts) (P : D → Ts → Prop)
theorem d_House_ahead_of_ok (h : sp_House_ahead_of W as t P) : d_House_ahead_of W (endsOf P) (start0 ["self", "power", "exponent", "sign", "base", "number", "signs", "steps", "first"] as) t := by
  obtain ⟨b, bs, c, e, rfl, he9, hh, c1, c2, k⟩ := h
  have h2 := hh.b2
  have h30 := hh.b30
  have hp := pow_pos' h2 e
  conv => whnf
  refine ⟨rfl, ?_⟩
  conv => whnf
  refine ⟨.l (by omega) (by omega), ?_⟩
  conv => whnf
  refine Br.mk (fun hn => ?_) (fun hn => ?_)
  · have hn : c * b ^ e - 1 = 0 := of_decide_eq_true hn
    rw [hn, Lp_le0 (by decide)] at k
    exact k
  · have hn : ¬ c * b ^ e - 1 = 0 := of_decide_eq_false hn
    conv => whnf
    refine Br.mk (fun hc => ?_) (fun hc => ?_)
    · have hc : c = 1 := of_decide_eq_true hc
      subst hc
      have he : ∃ s : Nat, e = s + 1 := by
        cases e with
        | zero => simp at hn
        | succ s => exact ⟨s, rfl⟩
      obtain ⟨s, rfl⟩ := he
      have A := Lp_ahead hh (f := b - 1) (by omega) (by omega) s
      have e1 : (b - 1 + 1) * b ^ s = 1 * b ^ (s + 1) := by rw [Int.pow_succ, Int.one_mul, Int.mul_comm]; congr 1; omega
      rw [e1] at A
      rw [A] at k
      have e2 : ((s + 1 : Nat) : Int) - 1 = s := by omega
      conv => whnf
      refine ⟨.l (by omega) (by omega), ?_⟩
      conv => whnf
      refine ⟨.s (by omega) (by omega), ?_⟩
      conv => whnf
      refine ⟨rfl, ?_⟩
      conv => whnf
      refine ⟨_, sums_last hh, ?_⟩
      conv => whnf
      refine ⟨.l (by omega) (by omega), ?_⟩
      conv => whnf
      refine ⟨rfl, ?_⟩
      conv => whnf
      refine ⟨_, sums_at hh (by omega) (by omega), ?_⟩
      conv => whnf
      rw [e2]
      exact k
    · have hc : ¬ c = 1 := of_decide_eq_false hc
      have A := Lp_ahead hh (f := c - 1) (by omega) (by omega) e
      rw [show c - 1 + 1 = c by omega] at A
      rw [A] at k
      conv => whnf
      refine ⟨.l (by omega) (by omega), ?_⟩
      conv => whnf
      refine ⟨.s (by omega) (by omega), ?_⟩
      conv => whnf
      refine ⟨rfl, ?_⟩
      conv => whnf
      refine ⟨_, sums_last hh, ?_⟩
      conv => whnf
      refine ⟨.l (by omega) (by omega), ?_⟩
      conv => whnf
      refine ⟨rfl, ?_⟩
      conv => whnf
      refine ⟨_, sums_at hh (by omega) (by omega), ?_⟩
      exact k
end
theorem two_pow_le {b : Int} (h2 : 2 ≤ b) : ∀ e : Nat, (2 : Int) ^ e ≤ b ^ e
  | 0 => by simp
  | e + 1 => by
    rw [Int.pow_succ, Int.pow_succ]
    exact Int.mul_le_mul (two_pow_le h2 e) h2 (by decide) (Int.le_of_lt (pow_pos' h2 e))
/-- where the search begins and ends -/
theorem said_lo {b m w H : Int} (h2 : 2 ≤ b) (hw : w ≤ m + H) (hH : (b - 1) * H ≤ m) : w * (b - 1) / b ≤ m := by
  refine Int.ediv_le_of_le_mul (by omega) ?_
  have h1 := Int.mul_le_mul_of_nonneg_left hw (show 0 ≤ b - 1 by omega)
  rw [Int.mul_add, Int.mul_comm (b - 1) w] at h1
  have h3 : (b - 1) * m = m * b - m := by rw [Int.sub_mul, Int.one_mul, Int.mul_comm]
  omega
theorem said_hi {b n w H e : Int} (h2 : 2 ≤ b) (hn : w * (b - 1) / b + e + 2 ≤ n) (hH : n - (b - 1) * (e + 1) ≤ (b - 1) * H) (he : 0 ≤ e) : w ≤ n + H := by
  rcases Int.lt_or_le (n + H) w with h | h
  · exfalso
    have q1 := Int.mul_ediv_add_emod (w * (b - 1)) b
    have q2 := Int.emod_lt_of_pos (w * (b - 1)) (show 0 < b by omega)
    generalize w * (b - 1) / b = v at *
    generalize hk : b - 1 = k at *
    have hb : b = k + 1 := by omega
    subst hb
    have p1 := Int.mul_le_mul_of_nonneg_left hn (show 0 ≤ k by omega)
    have p2 := Int.mul_le_mul_of_nonneg_left (show n + H + 1 ≤ w by omega) (show 0 ≤ k by omega)
    rw [Int.mul_add, Int.mul_add] at p1 p2
    rw [Int.mul_add] at hH
    rw [Int.add_mul, Int.one_mul] at q1
    rw [Int.mul_comm w k] at q1 q2
    omega
  · exact h
section
variable (W : Cl) (as : List D) (t : Ts) (P : D → Ts → Prop)
theorem d_House_said_ok (h : sp_House_said W as t P) : d_House_said W (endsOf P) (start0 ["self", "place", "wanted", "low", "high", "base", "exponent", "power", "sign", "middle"] as) t := by
  obtain ⟨b, bs, p, rfl, hh, hp1, hps, k⟩ := h
  have h2 := hh.b2
  have h30 := hh.b30
  obtain ⟨m, hm⟩ := Sa.ex hh hp1
  have k := k m hm
  -- how many powers lie below
  have few : ∀ e : Nat, b ^ e ≤ p → e ≤ 1000000 := fun e he => by
    rcases Nat.lt_or_ge 1000000 e with z | z
    · exfalso
      have h1 := two_pow_le h2 e
      have h3 : (2 : Nat) ^ 1000000 ≤ 2 ^ e := Nat.pow_le_pow_right (by decide) (by omega)
      have h4 : (((2 : Nat) ^ e : Nat) : Int) = (2 : Int) ^ e := by simp
      unfold Sm at hps
      omega
    · exact z
  conv => whnf
  refine ⟨rfl, ?_⟩
  conv => whnf
  refine ⟨rfl, ?_⟩
  conv => whnf
  refine ⟨fun e m => t = m ∧ ∃ x : Nat, x ≤ 1000000 ∧ Lp b bs (b ^ x - 1) < p ∧ e = [.val (hD W b bs), .val (.int p), .no, .no, .no, .val (.int b), .val (.int x), .val (.int (b ^ x)), .val (.int 1), .no], fun e m => match e with | [_, _, _, _, _, _, _, .val (.int y), _, _] => (p - y).toNat | _ => 0, ⟨rfl, 0, by decide, by rw [Lp_le0 (by simp)]; omega, by simp; rfl⟩, fun e m hI => ?_⟩
  obtain ⟨rfl, x, hx, hxp, rfl⟩ := hI
  have hpx := pow_pos' h2 x
  conv => whnf
  refine ⟨rfl, ?_⟩
  conv => whnf
  refine ⟨rfl, ?_⟩
  conv => whnf
  refine ⟨.r (by omega) (by omega), ?_⟩
  conv => whnf
  refine ⟨b, bs, 1, x + 1, by rw [Int.pow_succ]; rfl, by omega, hh, by decide, by omega, ?_⟩
  conv => whnf
  refine Br.mk (fun hc => ?_) (fun hc => ?_)
  · have hc : Lp b bs (1 * b ^ (x + 1) - 1) < p := of_decide_eq_true hc
    rw [Int.one_mul] at hc
    have h3 := Lp_ge_self hh (n := b ^ (x + 1) - 1) (by have := pow_pos' h2 (x + 1); omega)
    have h4 : b ^ (x + 1) = b ^ x * b := Int.pow_succ ..
    conv => whnf
    refine ⟨.r (by omega) (by omega), ?_⟩
    conv => whnf
    refine ⟨⟨rfl, x + 1, few _ (by omega), hc, by rw [h4]; rfl⟩, ?_⟩
    show (p - b ^ x * b).toNat < (p - b ^ x).toNat
    have : b ^ x * 2 ≤ b ^ x * b := Int.mul_le_mul_of_nonneg_left h2 (by omega)
    omega
  have hc : p ≤ Lp b bs (b ^ (x + 1) - 1) := by
    have := of_decide_eq_false hc
    rw [Int.one_mul] at this
    omega
  conv => whnf
  refine ⟨fun e m => t = m ∧ ∃ c, 1 ≤ c ∧ c < b ∧ Lp b bs (c * b ^ x - 1) < p ∧ e = [.val (hD W b bs), .val (.int p), .no, .no, .no, .val (.int b), .val (.int x), .val (.int (b ^ x)), .val (.int c), .no], fun e m => match e with | [_, _, _, _, _, _, _, _, .val (.int y), _] => (b - y).toNat | _ => 0, ⟨rfl, 1, by decide, by omega, by rw [Int.one_mul]; exact hxp, rfl⟩, fun e m hI => ?_⟩
  obtain ⟨rfl, c, c1, c2, hcp, rfl⟩ := hI
  have tail : p ≤ Lp b bs ((c + 1) * b ^ x - 1) → dSeq (dAsg (dOp oSub (dOp oSub (dVar 1) (dOp oMul (dVar 6) (dOp oIx (dFld W.House "sums" (dVar 0)) (dUn oNeg (dC (.int 1)))))) (dOp oIx (dFld W.House "sums" (dVar 0)) (dOp oSub (dVar 8) (dC (.int 1))))) (gName 2)) (dSeq (dAsg (dOp oSub (dCB bMax (dCons (dOp oMul (dVar 8) (dVar 7)) (dCons (dOp oDiv (dOp oMul (dVar 2) (dOp oSub (dVar 5) (dC (.int 1)))) (dVar 5)) dNil))) (dC (.int 1))) (gName 3)) (dSeq (dAsg (dCB bMin (dCons (dOp oSub (dOp oMul (dOp oAdd (dVar 8) (dC (.int 1))) (dVar 7)) (dC (.int 1))) (dCons (dOp oAdd (dOp oAdd (dVar 3) (dVar 6)) (dC (.int 3))) dNil))) (gName 4)) (dSeq (dWhile (dB (dOp oGt (dOp oSub (dVar 4) (dVar 3)) (dC (.int 1)))) (dSeq (dAsg (dOp oDiv (dOp oAdd (dVar 3) (dVar 4)) (dC (.int 2))) (gName 9)) (dSeq (dIf (dB (dOp oLt (dOp oAdd (dVar 9) (dCall sp_heap_of [] (dCons (dVar 9) (dCons (dVar 5) dNil)))) (dVar 2))) (dSeq (dAsg (dVar 9) (gName 3)) dNext) (dSeq (dAsg (dVar 9) (gName 4)) dNext)) dNext))) (dSeq (dRet (dVar 4)) dNext)))) (endsOf P) [.val (hD W b bs), .val (.int p), .no, .no, .no, .val (.int b), .val (.int x), .val (.int (b ^ x)), .val (.int c), .no] t := by
    intro hcq
    have m0 : c * b ^ x ≤ m := by
      rcases Int.lt_or_le m (c * b ^ x) with z | z
      · have := Lp_le_of hh (m := m) (n := c * b ^ x - 1) (by have := hm.m1; omega) (by omega)
        have := hm.hi
        omega
      · exact z
    have m9 : m < (c + 1) * b ^ x := by
      rcases Int.lt_or_le m ((c + 1) * b ^ x) with z | z
      · exact z
      · have h6 : 0 < (c + 1) * b ^ x := Int.mul_pos (by omega) hpx
        have := Lp_le_of hh (m := (c + 1) * b ^ x - 1) (n := m - 1) (by omega) (by omega)
        have := hm.lo
        omega
    have hLm := Lp_in hh c1 c2 x m m0 m9
    have hHm := heap_in h2 c1 c2 x m m0 m9
    conv => whnf
    refine ⟨rfl, ?_⟩
    conv => whnf
    refine ⟨_, sums_last hh, ?_⟩
    conv => whnf
    refine ⟨.l (by omega) (by omega), ?_⟩
    conv => whnf
    refine ⟨rfl, ?_⟩
    conv => whnf
    refine ⟨_, sums_at hh c1 c2, ?_⟩
    conv => whnf
    refine ⟨.l (by omega) (by omega), ?_⟩
    conv => whnf
    refine ⟨.r (by omega) (by omega), ?_⟩
    conv => whnf
    refine ⟨.s (by omega) (by omega), ?_⟩
    conv => whnf
    generalize hw : p - x * Re bs - Su bs c = w
    have hwm : w ≤ m + heap b m := by have := hm.hi; omega
    have lo1 := said_lo h2 hwm hHm.2
    refine ⟨.l (by omega) (by omega), ?_⟩
    conv => whnf
    generalize hA : c * b ^ x = A at *
    generalize hE : (c + 1) * b ^ x = E at *
    have hAE : 0 < A := by rw [← hA]; exact Int.mul_pos (by omega) hpx
    -- the beginning's bounds
    generalize hl : (if w * (b - 1) / b > A then w * (b - 1) / b else A) - 1 = low
    have l1 : low < m := by rw [← hl]; split <;> omega
    have l2 : A - 1 ≤ low := by rw [← hl]; split <;> omega
    have l3 : w * (b - 1) / b - 1 ≤ low := by rw [← hl]; split <;> omega
    generalize hg : (if low + x + 3 < E - 1 then low + x + 3 else E - 1) = high
    have g1 : m ≤ high := by
      rw [← hg]
      split
      · rename_i hlt
        rcases Int.lt_or_le (low + x + 3) m with z | z
        · exfalso
          have i1 := heap_in h2 c1 c2 x (low + x + 3) (by rw [hA]; omega) (by rw [hE]; omega)
          have i2 := said_hi (e := x) h2 (show w * (b - 1) / b + x + 2 ≤ low + x + 3 by omega) i1.1 (by omega)
          have i3 := Lp_in hh c1 c2 x (low + x + 3) (by rw [hA]; omega) (by rw [hE]; omega)
          have i4 := Lp_le_of hh (m := low + x + 3) (n := m - 1) (by omega) (by omega)
          have := hm.lo
          omega
        · exact z
      · omega
    have g2 : high ≤ E - 1 := by rw [← hg]; split <;> omega
    clear hl hg l3
    refine ⟨fun e u => t = u ∧ ∃ lo hi s9, A - 1 ≤ lo ∧ lo < m ∧ m ≤ hi ∧ hi ≤ E - 1 ∧ e = [.val (hD W b bs), .val (.int p), .val (.int w), .val (.int lo), .val (.int hi), .val (.int b), .val (.int x), .val (.int (b ^ x)), .val (.int c), s9], fun e m => match e with | [_, _, _, .val (.int y), .val (.int z), _, _, _, _, _] => (z - y).toNat | _ => 0, ⟨rfl, _, _, _, l2, l1, g1, g2, rfl⟩, fun e u hI => ?_⟩
    obtain ⟨rfl, lo, hi, s9, a1, a2, a3, a4, rfl⟩ := hI
    conv => whnf
    refine Br.mk (fun hd => ?_) (fun hd => ?_)
    · have hd : 1 < hi - lo := of_decide_eq_true hd
      conv => whnf
      refine ⟨.s (by decide) (by decide), ?_⟩
      conv => whnf
      have d1 : lo < (lo + hi) / 2 := by omega
      have d2 : (lo + hi) / 2 < hi := by omega
      generalize (lo + hi) / 2 = mid at *
      have hLd := Lp_in hh c1 c2 x mid (by rw [hA]; omega) (by rw [hE]; omega)
      refine ⟨_, _, rfl, h2, by omega, ?_⟩
      conv => whnf
      refine Br.mk (fun hq => ?_) (fun hq => ?_)
      · have hq : mid + heap b mid < w := of_decide_eq_true hq
        have : mid < m := by
          rcases Int.lt_or_le mid m with z | z
          · exact z
          · have := Lp_le_of hh (m := m) (n := mid) (by have := hm.m1; omega) z
            have := hm.hi
            omega
        exact ⟨⟨rfl, mid, hi, _, by omega, this, a3, a4, rfl⟩, by show (hi - mid).toNat < (hi - lo).toNat; omega⟩
      · have hq : ¬ mid + heap b mid < w := of_decide_eq_false hq
        have : m ≤ mid := by
          rcases Int.lt_or_le mid m with z | z
          · have := Lp_le_of hh (m := mid) (n := m - 1) (by omega) (by omega)
            have := hm.lo
            omega
          · exact z
        exact ⟨⟨rfl, lo, mid, _, a1, a2, this, by omega, rfl⟩, by show (mid - lo).toNat < (hi - lo).toNat; omega⟩
    · have hd : ¬ 1 < hi - lo := of_decide_eq_false hd
      conv => whnf
      rw [show hi = m by omega]
      exact k
  conv => whnf
  refine Br.mk (fun hd => ?_) (fun hd => ?_)
  · have hd : c < b - 1 := of_decide_eq_true hd
    conv => whnf
    refine ⟨rfl, ?_⟩
    conv => whnf
    refine ⟨rfl, ?_⟩
    conv => whnf
    refine ⟨b, bs, c + 1, x, rfl, by omega, hh, by omega, by omega, ?_⟩
    conv => whnf
    refine Br.mk (fun he => ?_) (fun he => ?_)
    · have he : Lp b bs ((c + 1) * b ^ x - 1) < p := of_decide_eq_true he
      exact ⟨⟨rfl, c + 1, by omega, by omega, he, rfl⟩, by show (b - (c + 1)).toNat < (b - c).toNat; omega⟩
    · have he : ¬ Lp b bs ((c + 1) * b ^ x - 1) < p := of_decide_eq_false he
      exact tail (by omega)
  · have hd : ¬ c < b - 1 := of_decide_eq_false hd
    refine tail ?_
    have e1 : (c + 1) * b ^ x = b ^ (x + 1) := by rw [Int.pow_succ, Int.mul_comm]; congr 1; omega
    rw [e1]
    exact hc
end
end Q
/-! MHLaw -/
namespace Q
open PySem
/-! ### sizes of last places -/
section
variable {b : Int} {bs : List Int}
theorem Lp_nn (h : Hou b bs) {n : Int} (h0 : 0 ≤ n) : 0 ≤ Lp b bs n := Int.le_trans h0 (Lp_ge_self h h0)
end
/-! ### a drawn beginning -/
theorem wipe1 (env : En) (v : Nat) (x : Sl) : wipeE ((wipeE env [v]).set v x) [v] = wipeE env [v] := by simp [wipeE]
end Q
/-! MRec -/
namespace Q
open PySem
/-! ### what is said, as a function; 1 at places below 1 -/
def sdF (b : Int) (bs : List Int) (p : Int) : Nat → Int → Int
  | 0, m => m
  | k + 1, m => if p ≤ Lp b bs m then m else sdF b bs p k (m + 1)
def sd (b : Int) (bs : List Int) (p : Int) : Int := if 1 ≤ p then sdF b bs p p.toNat 1 else 1
section
variable {b : Int} {bs : List Int}
theorem sdF_sa (h : Hou b bs) {p : Int} : ∀ (k : Nat) (m : Int), 1 ≤ m → Lp b bs (m - 1) < p → p ≤ m - 1 + k → Sa b bs p (sdF b bs p k m)
  | 0, m, h1, h2, h3 => by
    have := Lp_ge_self h (n := m - 1) (by omega)
    omega
  | k + 1, m, h1, h2, h3 => by
    show Sa b bs p (if p ≤ Lp b bs m then m else sdF b bs p k (m + 1))
    split
    · rename_i hp
      exact ⟨h1, h2, hp⟩
    · rename_i hp
      exact sdF_sa h k (m + 1) (by omega) (by rw [show m + 1 - 1 = m by omega]; omega) (by omega)
theorem sd_sa (h : Hou b bs) {p : Int} (h1 : 1 ≤ p) : Sa b bs p (sd b bs p) := by
  unfold sd
  rw [if_pos h1]
  exact sdF_sa h _ 1 (by decide) (by rw [Lp_le0 (by decide)]; omega) (by omega)
theorem sd_le0 {p : Int} (h : p ≤ 0) : sd b bs p = 1 := by
  unfold sd
  rw [if_neg (by omega)]
theorem sd_eq (h : Hou b bs) {p m : Int} (s : Sa b bs p m) : sd b bs p = m := by
  have h0 := Lp_nn h (n := m - 1) (by have := s.m1; omega)
  exact Sa.uniq h (sd_sa h (by have := s.lo; omega)) s
theorem sd_pos (h : Hou b bs) (p : Int) : 1 ≤ sd b bs p := by
  by_cases h1 : 1 ≤ p
  · exact (sd_sa h h1).m1
  · rw [sd_le0 (by omega)]
    decide
end
end Q
/-! MGone -/
namespace Q
open PySem
/-! ### going: what is said at the first places -/
end Q
/-! MTot -/
namespace Q
open PySem
/-! ### sums over the row -/
end Q
/-! MOft -/
namespace Q
open PySem
/-! ### powers -/
end Q
/-! MHA -/
namespace Q
open PySem
/-! ### what the laws of one house (k13 to k34) share -/
theorem mil_sm : ∀ f : Nat, (1000000 : Int) ^ f ≤ ((2 ^ (20 * f) : Nat) : Int)
  | 0 => by simp
  | f + 1 => by
    have ih := mil_sm f
    have h0 : (0 : Int) < 1000000 ^ f := Int.pow_pos (by decide)
    rw [Int.pow_succ, Nat.mul_add, Nat.pow_add]
    have : ((2 ^ (20 * f) * 2 ^ (20 * 1) : Nat) : Int) = ((2 ^ (20 * f) : Nat) : Int) * 1048576 := by simp
    omega
theorem mil_pos (f : Nat) : (0 : Int) < 1000000 ^ f := Int.pow_pos (by decide)
theorem sm_mil {z : Int} {f : Nat} (h0 : 0 ≤ z) (h1 : z ≤ 1000000 ^ f) : Sm (20 * f + 1) z := by
  have := mil_sm f
  have := Nat.pow_succ 2 (20 * f)
  have := Nat.two_pow_pos (20 * f)
  unfold Sm
  omega
theorem mil_ge {f : Nat} (h : 1 ≤ f) : (1000000 : Int) ≤ 1000000 ^ f := by
  obtain ⟨g, rfl⟩ : ∃ g, f = g + 1 := ⟨f - 1, by omega⟩
  have := mil_pos g
  rw [Int.pow_succ]
  omega
/-- places by the laws' own -/
theorem sum_less (l : List Int) : (l.map (· - 1)).sum = l.sum - l.length := by
  induction l with
  | nil => simp
  | cons a l ih => simp [ih]; omega
theorem Su_sum {bs : List Int} {j : Nat} (h : j ≤ bs.length) : (bs.take j).sum = Su bs j + j := by
  unfold Su
  rw [sum_less, List.length_take, show ((j : Int)).toNat = j by omega]
  omega
theorem Re_sum (bs : List Int) : bs.sum - bs.length = Re bs := by
  have := Su_sum (bs := bs) (Nat.le_refl _)
  rw [List.take_length] at this
  unfold Re
  omega
end Q
/-! MTool -/
namespace Q
open PySem
/-! ### comprehensions that draw nothing -/
section
variable {xs : List D} {env : En} {t : Ts} {vs : List Nat} {g : DG} {c : DT} {a : DE} {P : List D → Ts → Prop}
/-- by the items' places; some are left out -/
theorem lc_fm (f : Nat → Option D) (hl : xs.length ≤ zLen) (h : ∀ (i : Nat) (x : D), xs[i]? = some x → ∀ (Qy : D → Ts → Prop) (Qn : Ts → Prop), (∀ y, f i = some y → Qy y t) → (f i = none → Qn t) →
    g x (wipeE env vs) t fun e' m' => wipeE e' vs = wipeE env vs ∧ c e' m' fun k m1 => Br k (a e' m1 Qy) (Qn m1)) (k : P ((List.range xs.length).filterMap f) t) :
    ∃ Inv : Nat → List D → Ts → Prop, Inv 0 [] t ∧ (∀ i x acc m, xs[i]? = some x → Inv i acc m → g x (wipeE env vs) m fun e' m' => wipeE e' vs = wipeE env vs ∧ c e' m' fun k m1 => Br k (a e' m1 fun y m2 => acc.length < zLen ∧ Inv (i + 1) (acc ++ [y]) m2) (Inv (i + 1) acc m1)) ∧ ∀ acc m, Inv xs.length acc m → P acc m := by
  refine ⟨fun i acc m => t = m ∧ acc = (List.range i).filterMap f, ⟨rfl, rfl⟩, fun i x acc m hx hI => ?_, fun acc m hI => ?_⟩
  · obtain ⟨rfl, rfl⟩ := hI
    have hi : i < xs.length := (List.getElem?_eq_some_iff.mp hx).1
    refine h i x hx _ _ (fun y hy => ⟨?_, rfl, ?_⟩) (fun hn => ⟨rfl, ?_⟩)
    · refine Nat.lt_of_le_of_lt (List.length_filterMap_le _ _) ?_
      rw [List.length_range]; omega
    · rw [List.range_succ, List.filterMap_append]
      simp [hy]
    · rw [List.range_succ, List.filterMap_append]
      simp [hn]
  · obtain ⟨rfl, rfl⟩ := hI
    exact k
theorem fm_some {α β : Type} (f : α → β) : ∀ l : List α, l.filterMap (fun x => some (f x)) = l.map f
  | [] => rfl
  | x :: l => by simp [fm_some f l]
/-- .. all taken -/
theorem lc_idx (f : Nat → D) (hl : xs.length ≤ zLen) (h : ∀ (i : Nat) (x : D), xs[i]? = some x → ∀ Qy : D → Ts → Prop, Qy (f i) t →
    g x (wipeE env vs) t fun e' m' => wipeE e' vs = wipeE env vs ∧ a e' m' Qy) (k : P ((List.range xs.length).map f) t) :
    ∃ Inv : Nat → List D → Ts → Prop, Inv 0 [] t ∧ (∀ i x acc m, xs[i]? = some x → Inv i acc m → g x (wipeE env vs) m fun e' m' => wipeE e' vs = wipeE env vs ∧ dYes e' m' fun k m1 => Br k (a e' m1 fun y m2 => acc.length < zLen ∧ Inv (i + 1) (acc ++ [y]) m2) (Inv (i + 1) acc m1)) ∧ ∀ acc m, Inv xs.length acc m → P acc m := by
  refine lc_fm (c := dYes) (fun i => some (f i)) hl (fun i x hx Qy Qn h1 h2 => h i x hx Qy (h1 _ rfl)) ?_
  rw [fm_some]
  exact k
end
theorem pick_int {l : List Int} {lo hi : Int} {i : Nat} {d : D} (h : (l.map D.int)[i]? = some d) (hl : ∀ n ∈ l, lo ≤ n ∧ n ≤ hi) : ∃ f : Int, d = .int f ∧ lo ≤ f ∧ f ≤ hi := by
  rw [List.getElem?_map] at h
  cases q : l[i]? with
  | none => rw [q] at h; cases h
  | some n =>
    rw [q] at h
    cases h
    have := hl n (List.mem_of_getElem? q)
    exact ⟨n, rfl, this.1, this.2⟩
/-! ### data that are alike -/
end Q
/-! MSum -/
namespace Q
open PySem
/-! ### often.py: sums -/
def HSm (y : Nat) (bs : List Int) : Prop := ∀ x ∈ bs, Sm y x
def d_House_base (W : Cl) : DS := (dSeq (dRet (dFld W.House "kept_base" (dVar 0))) dNext)
section
variable {b : Int} {bs : List Int}
theorem Ti_pos' (h : Hou b bs) {n : Int} (h1 : 1 ≤ n) : 1 ≤ Ti b bs n := Ti_pos h _ n (Nat.le_refl _) h1
end
theorem d_House_base_ok (W : Cl) (as : List D) (t : Ts) (P : D → Ts → Prop) (h : sp_House_base W as t P) : d_House_base W (endsOf P) (start0 ["self"] as) t := by
  obtain ⟨b, bs, rfl, k⟩ := h
  conv => whnf
  repeat (refine And.intro (by first | omega | rfl | exact MulOk.r (by decide) (by decide) | exact MulOk.l (by omega) (by omega) | exact MulOk.r (by omega) (by omega) | exact DivOk.s (by omega) (by omega) | exact PowOk.s (by decide) (by decide) (by decide) (by decide) | (unfold zLen; omega) | (simp only [List.length_append, List.length_map, List.length_cons, List.length_nil]; unfold zLen; omega)) ?_; conv => whnf)
  exact k
end Q
/-! MPenT -/
namespace Q
open PySem
/-! ### the tape pen -/
structure Pt (n : Int) (t : Ts) : Prop where
  c : t.cells.length ≤ 63
  a0 : 0 ≤ t.at'
  a1 : t.at' ≤ n
  l : 0 ≤ t.left
  tp : t.tape = true
theorem Pt.mono {n m : Int} {t : Ts} (p : Pt n t) (h : n ≤ m) : Pt m t := ⟨p.c, p.a0, Int.le_trans p.a1 h, p.l, p.tp⟩
theorem Pt.zero {cs : List Int} (h : cs.length ≤ 63) : Pt 0 ⟨cs, 0, 0, true, noObs⟩ := ⟨h, Int.le_refl 0, Int.le_refl 0, Int.le_refl 0, rfl⟩
def sp__law_tape : PSp := fun ds t P => ∃ ns, ds = [.scr ns] ∧ ns.length ≤ 63 ∧ ∀ cs : List Int, cs.length ≤ 63 → P (.dic [.inr "cells", .inr "turn", .inr "rest"] [.lst (cs.map .int), .int 0, .int 0]) t
def sp__law_draw_2 : PSp := fun ds t P => ∃ many n, ds = [.pen, .int many] ∧ 0 < many ∧ Sm 9000 many ∧ Pt n t ∧ n < 100000000 ∧ ∀ z t', 0 ≤ z → z < many → Pt (n + 1) t' → P (.int z) t'
def sp__law_pick_2 : PSp := fun ds t P => ∃ n, ∃ l : List D, ds = [.pen, .lst l] ∧ 0 < l.length ∧ l.length ≤ 10000 ∧ Pt n t ∧ n < 90000000 ∧ ∀ (i : Nat) d t', l[i]? = some d → Pt (n + 1) t' → P d t'
def sp__law_many_2 : PSp := fun ds t P => ∃ n, ∃ f : Nat, ds = [.pen, .int f] ∧ f ≤ 6000 ∧ Pt n t ∧ n < 90000000 ∧ ∀ z t', 0 ≤ z → z < 1000000 ^ (f / 6 + 1) → Pt (n + 2 + f / 6) t' → P (.int z) t'
def sp__law_begun_3 : PSp := fun ds t P => ∃ b most n, ds = [.pen, .int b, .int most] ∧ 2 ≤ b ∧ b ≤ 30 ∧ 1 ≤ most ∧ Sm 8000 most ∧ Pt n t ∧ n < 80000000 ∧ ∀ bs t', Hou b bs → (∀ x ∈ bs, x ≤ most + 3) → Pt (n + 100) t' → P (.lst (bs.map .int)) t'
def sp__law_signed : PSp := fun ds t P => ∃ n, ∃ f : Nat, ds = [.pen, .int f] ∧ f ≤ 6000 ∧ Pt n t ∧ n < 80000000 ∧ ∀ z t', Sm (20 * (f / 6 + 1) + 2) z → Pt (n + 6 + f / 6) t' → P (.int z) t'
theorem len__law_tape (as : List D) (t : Ts) (P : D → Ts → Prop) (h : sp__law_tape as t P) : as.length = 1 := by first | (obtain ⟨_, rfl, _⟩ := h; rfl) | (obtain ⟨_, _, rfl, _⟩ := h; rfl) | (obtain ⟨_, _, _, rfl, _⟩ := h; rfl) | (obtain ⟨_, _, _, _, rfl, _⟩ := h; rfl) | (obtain ⟨_, _, _, _, _, rfl, _⟩ := h; rfl) | (obtain ⟨_, _, _, _, _, _, rfl, _⟩ := h; rfl) | (obtain ⟨_, _, _, _, _, _, _, rfl, _⟩ := h; rfl) | (obtain ⟨_, _, _, _, _, _, _, _, rfl, _⟩ := h; rfl) | (obtain ⟨_, rfl | rfl, _⟩ := h <;> rfl) | (obtain ⟨_, _, rfl | rfl, _⟩ := h <;> rfl) | (obtain ⟨_, _, _, rfl | rfl, _⟩ := h <;> rfl) | (obtain ⟨_, _, _, _, rfl | rfl, _⟩ := h <;> rfl) | (obtain ⟨_, _, _, _, _, rfl | rfl, _⟩ := h <;> rfl) | (obtain ⟨_, _, _, _, _, _, rfl | rfl, _⟩ := h <;> rfl) | (obtain ⟨_, _, _, _, _, _, _, rfl | rfl, _⟩ := h <;> rfl) | (obtain ⟨_, _, _, _, _, _, _, _, rfl | rfl, _⟩ := h <;> rfl)
theorem len__law_draw_2 (as : List D) (t : Ts) (P : D → Ts → Prop) (h : sp__law_draw_2 as t P) : as.length = 2 := by first | (obtain ⟨_, rfl, _⟩ := h; rfl) | (obtain ⟨_, _, rfl, _⟩ := h; rfl) | (obtain ⟨_, _, _, rfl, _⟩ := h; rfl) | (obtain ⟨_, _, _, _, rfl, _⟩ := h; rfl) | (obtain ⟨_, _, _, _, _, rfl, _⟩ := h; rfl) | (obtain ⟨_, _, _, _, _, _, rfl, _⟩ := h; rfl) | (obtain ⟨_, _, _, _, _, _, _, rfl, _⟩ := h; rfl) | (obtain ⟨_, _, _, _, _, _, _, _, rfl, _⟩ := h; rfl) | (obtain ⟨_, rfl | rfl, _⟩ := h <;> rfl) | (obtain ⟨_, _, rfl | rfl, _⟩ := h <;> rfl) | (obtain ⟨_, _, _, rfl | rfl, _⟩ := h <;> rfl) | (obtain ⟨_, _, _, _, rfl | rfl, _⟩ := h <;> rfl) | (obtain ⟨_, _, _, _, _, rfl | rfl, _⟩ := h <;> rfl) | (obtain ⟨_, _, _, _, _, _, rfl | rfl, _⟩ := h <;> rfl) | (obtain ⟨_, _, _, _, _, _, _, rfl | rfl, _⟩ := h <;> rfl) | (obtain ⟨_, _, _, _, _, _, _, _, rfl | rfl, _⟩ := h <;> rfl)
theorem len__law_pick_2 (as : List D) (t : Ts) (P : D → Ts → Prop) (h : sp__law_pick_2 as t P) : as.length = 2 := by first | (obtain ⟨_, rfl, _⟩ := h; rfl) | (obtain ⟨_, _, rfl, _⟩ := h; rfl) | (obtain ⟨_, _, _, rfl, _⟩ := h; rfl) | (obtain ⟨_, _, _, _, rfl, _⟩ := h; rfl) | (obtain ⟨_, _, _, _, _, rfl, _⟩ := h; rfl) | (obtain ⟨_, _, _, _, _, _, rfl, _⟩ := h; rfl) | (obtain ⟨_, _, _, _, _, _, _, rfl, _⟩ := h; rfl) | (obtain ⟨_, _, _, _, _, _, _, _, rfl, _⟩ := h; rfl) | (obtain ⟨_, rfl | rfl, _⟩ := h <;> rfl) | (obtain ⟨_, _, rfl | rfl, _⟩ := h <;> rfl) | (obtain ⟨_, _, _, rfl | rfl, _⟩ := h <;> rfl) | (obtain ⟨_, _, _, _, rfl | rfl, _⟩ := h <;> rfl) | (obtain ⟨_, _, _, _, _, rfl | rfl, _⟩ := h <;> rfl) | (obtain ⟨_, _, _, _, _, _, rfl | rfl, _⟩ := h <;> rfl) | (obtain ⟨_, _, _, _, _, _, _, rfl | rfl, _⟩ := h <;> rfl) | (obtain ⟨_, _, _, _, _, _, _, _, rfl | rfl, _⟩ := h <;> rfl)
theorem len__law_many_2 (as : List D) (t : Ts) (P : D → Ts → Prop) (h : sp__law_many_2 as t P) : as.length = 2 := by first | (obtain ⟨_, rfl, _⟩ := h; rfl) | (obtain ⟨_, _, rfl, _⟩ := h; rfl) | (obtain ⟨_, _, _, rfl, _⟩ := h; rfl) | (obtain ⟨_, _, _, _, rfl, _⟩ := h; rfl) | (obtain ⟨_, _, _, _, _, rfl, _⟩ := h; rfl) | (obtain ⟨_, _, _, _, _, _, rfl, _⟩ := h; rfl) | (obtain ⟨_, _, _, _, _, _, _, rfl, _⟩ := h; rfl) | (obtain ⟨_, _, _, _, _, _, _, _, rfl, _⟩ := h; rfl) | (obtain ⟨_, rfl | rfl, _⟩ := h <;> rfl) | (obtain ⟨_, _, rfl | rfl, _⟩ := h <;> rfl) | (obtain ⟨_, _, _, rfl | rfl, _⟩ := h <;> rfl) | (obtain ⟨_, _, _, _, rfl | rfl, _⟩ := h <;> rfl) | (obtain ⟨_, _, _, _, _, rfl | rfl, _⟩ := h <;> rfl) | (obtain ⟨_, _, _, _, _, _, rfl | rfl, _⟩ := h <;> rfl) | (obtain ⟨_, _, _, _, _, _, _, rfl | rfl, _⟩ := h <;> rfl) | (obtain ⟨_, _, _, _, _, _, _, _, rfl | rfl, _⟩ := h <;> rfl)
theorem len__law_begun_3 (as : List D) (t : Ts) (P : D → Ts → Prop) (h : sp__law_begun_3 as t P) : as.length = 3 := by first | (obtain ⟨_, rfl, _⟩ := h; rfl) | (obtain ⟨_, _, rfl, _⟩ := h; rfl) | (obtain ⟨_, _, _, rfl, _⟩ := h; rfl) | (obtain ⟨_, _, _, _, rfl, _⟩ := h; rfl) | (obtain ⟨_, _, _, _, _, rfl, _⟩ := h; rfl) | (obtain ⟨_, _, _, _, _, _, rfl, _⟩ := h; rfl) | (obtain ⟨_, _, _, _, _, _, _, rfl, _⟩ := h; rfl) | (obtain ⟨_, _, _, _, _, _, _, _, rfl, _⟩ := h; rfl) | (obtain ⟨_, rfl | rfl, _⟩ := h <;> rfl) | (obtain ⟨_, _, rfl | rfl, _⟩ := h <;> rfl) | (obtain ⟨_, _, _, rfl | rfl, _⟩ := h <;> rfl) | (obtain ⟨_, _, _, _, rfl | rfl, _⟩ := h <;> rfl) | (obtain ⟨_, _, _, _, _, rfl | rfl, _⟩ := h <;> rfl) | (obtain ⟨_, _, _, _, _, _, rfl | rfl, _⟩ := h <;> rfl) | (obtain ⟨_, _, _, _, _, _, _, rfl | rfl, _⟩ := h <;> rfl) | (obtain ⟨_, _, _, _, _, _, _, _, rfl | rfl, _⟩ := h <;> rfl)
theorem len__law_signed (as : List D) (t : Ts) (P : D → Ts → Prop) (h : sp__law_signed as t P) : as.length = 2 := by first | (obtain ⟨_, rfl, _⟩ := h; rfl) | (obtain ⟨_, _, rfl, _⟩ := h; rfl) | (obtain ⟨_, _, _, rfl, _⟩ := h; rfl) | (obtain ⟨_, _, _, _, rfl, _⟩ := h; rfl) | (obtain ⟨_, _, _, _, _, rfl, _⟩ := h; rfl) | (obtain ⟨_, _, _, _, _, _, rfl, _⟩ := h; rfl) | (obtain ⟨_, _, _, _, _, _, _, rfl, _⟩ := h; rfl) | (obtain ⟨_, _, _, _, _, _, _, _, rfl, _⟩ := h; rfl) | (obtain ⟨_, rfl | rfl, _⟩ := h <;> rfl) | (obtain ⟨_, _, rfl | rfl, _⟩ := h <;> rfl) | (obtain ⟨_, _, _, rfl | rfl, _⟩ := h <;> rfl) | (obtain ⟨_, _, _, _, rfl | rfl, _⟩ := h <;> rfl) | (obtain ⟨_, _, _, _, _, rfl | rfl, _⟩ := h <;> rfl) | (obtain ⟨_, _, _, _, _, _, rfl | rfl, _⟩ := h <;> rfl) | (obtain ⟨_, _, _, _, _, _, _, rfl | rfl, _⟩ := h <;> rfl) | (obtain ⟨_, _, _, _, _, _, _, _, rfl | rfl, _⟩ := h <;> rfl)
def d__law_tape : DS := (dSeq (dRet (dDisp (("cells", (dCB bList (dCons (dSlice (dVar 0) dNoPart (dPart (dC (.int 63)))) dNil))) :: (("turn", (dC (.int 0))) :: (("rest", (dC (.int 0))) :: []))))) dNext)
def d__law_draw_2 : DS := (dSeq (dIf (dB (dOp oGt (dPenL true (dVar 0)) (dC (.int 0)))) (dSeq (dAsg (dOp oMod (dPenL true (dVar 0)) (dVar 1)) (gName 7)) (dSeq (dPutL true 0 (dOp oDiv (dPenL true (dVar 0)) (dVar 1))) (dSeq (dRet (dVar 7)) dNext))) dNext) (dSeq (dAsg (dPenA true (dVar 0)) (gName 2)) (dSeq (dPutA true 0 (dOp oAdd (dVar 2) (dC (.int 1)))) (dSeq (dAsg (dOp oAdd (dOp oMul (dC (.int 41)) (dVar 2)) (dC (.int 3))) (gName 3)) (dSeq (dIf (dB (dOp oNe (dPenC (dVar 0)) (dLst dNil))) (dSeq (dAsg (dOp oIx (dPenC (dVar 0)) (dOp oMod (dVar 2) (dCB bLen (dCons (dPenC (dVar 0)) dNil)))) (gName 3)) dNext) dNext) (dSeq (dIf (dAnd (dB (dOp oLt (dVar 2) (dCB bLen (dCons (dPenC (dVar 0)) dNil)))) (dB (dOp oGe (dCB bAbs (dCons (dVar 3) dNil)) (dOp oPow (dC (.int 10)) (dC (.int 18)))))) (dSeq (dPutL true 0 (dOp oDiv (dOp oSub (dCB bAbs (dCons (dVar 3) dNil)) (dOp oPow (dC (.int 10)) (dC (.int 18)))) (dVar 1))) (dSeq (dRet (dOp oMod (dOp oSub (dCB bAbs (dCons (dVar 3) dNil)) (dOp oPow (dC (.int 10)) (dC (.int 18)))) (dVar 1))) dNext)) dNext) (dSeq (dAsg (dLst (dCons (dC (.int 2147483647)) (dCons (dC (.int 2147483629)) (dCons (dC (.int 2147483587)) (dCons (dC (.int 2147483579)) (dCons (dC (.int 2147483563)) dNil)))))) (gName 4)) (dSeq (dAsg (dOp oIx (dVar 4) (dOp oMod (dVar 2) (dC (.int 5)))) (gName 5)) (dSeq (dAsg (dOp oMod (dOp oAdd (dOp oAdd (dOp oMul (dOp oMod (dVar 3) (dVar 5)) (dC (.int 48271))) (dOp oMul (dOp oMul (dC (.int 40507)) (dVar 2)) (dVar 2))) (dC (.int 31))) (dVar 5)) (gName 6)) (dSeq (dAsg (dOp oMod (dOp oMul (dVar 6) (dOp oAdd (dVar 6) (dC (.int 69621)))) (dOp oIx (dVar 4) (dOp oMod (dOp oAdd (dVar 2) (dC (.int 2))) (dC (.int 5))))) (gName 6)) (dSeq (dRet (dOp oMod (dOp oDiv (dOp oMod (dOp oMul (dVar 6) (dVar 6)) (dC (.int 2147483549))) (dC (.int 64))) (dVar 1))) dNext)))))))))))
def d__law_pick_2 : DS := (dSeq (dRet (dOp oIx (dVar 1) (dCall sp__law_draw_2 [] (dCons (dVar 0) (dCons (dCB bLen (dCons (dVar 1) dNil)) dNil))))) dNext)
def d__law_many_2 : DS := (dSeq (dAsg (dC (.int 0)) (gName 2)) (dSeq (dFor (iRng1 (dOp oAdd (dCall sp__law_draw_2 [] (dCons (dVar 0) (dCons (dOp oAdd (dC (.int 1)) (dOp oDiv (dVar 1) (dC (.int 6)))) dNil))) (dC (.int 1)))) (gName 3) (dSeq (dAsg (dOp oAdd (dOp oMul (dVar 2) (dOp oPow (dC (.int 10)) (dC (.int 6)))) (dCall sp__law_draw_2 [] (dCons (dVar 0) (dCons (dOp oPow (dC (.int 10)) (dC (.int 6))) dNil)))) (gName 2)) dNext)) (dSeq (dRet (dVar 2)) dNext)))
def d__law_begun_3 : DS := (dSeq (dRet (dLc [3] (iRng1 (dOp oSub (dVar 1) (dC (.int 1)))) (gName 3) dYes (dOp oAdd (dC (.int 1)) (dCall sp__law_pick_2 [] (dCons (dVar 0) (dCons (dLst (dCons (dC (.int 0)) (dCons (dCall sp__law_draw_2 [] (dCons (dVar 0) (dCons (dC (.int 3)) dNil))) (dCons (dCall sp__law_draw_2 [] (dCons (dVar 0) (dCons (dVar 2) dNil))) dNil)))) dNil)))))) dNext)
def d__law_signed : DS := (dSeq (dRet (dOp oMul (dCall sp__law_pick_2 [] (dCons (dVar 0) (dCons (dLst (dCons (dC (.int 1)) (dCons (dUn oNeg (dC (.int 1))) (dCons (dC (.int 0)) (dCons (dC (.int 1)) (dCons (dUn oNeg (dC (.int 1))) dNil)))))) dNil))) (dCall sp__law_pick_2 [] (dCons (dVar 0) (dCons (dLst (dCons (dCall sp__law_draw_2 [] (dCons (dVar 0) (dCons (dC (.int 9)) dNil))) (dCons (dCall sp__law_many_2 [] (dCons (dVar 0) (dCons (dVar 1) dNil))) dNil))) dNil))))) dNext)
theorem d__law_tape_ok (as : List D) (t : Ts) (P : D → Ts → Prop) (h : sp__law_tape as t P) : d__law_tape (endsN P) (start0 ["_law_script"] as) t := by
  obtain ⟨ns, rfl, hl, k⟩ := h
  conv => whnf
  have e : cutD (ns.map D.int) none (some 63) = ns.map .int := by
    unfold cutD
    have : sIx (ns.map D.int).length (ns.map D.int).length (some 63) = ns.length := by
      unfold sIx
      simp; omega
    rw [this]
    simp only [sIx, List.drop_zero, Nat.sub_zero]
    exact List.take_of_length_le (by simp)
  have := k ns hl
  rw [← e] at this
  exact this
/-- the draw's tail -/
theorem prime_at {i : Int} (h0 : 0 ≤ i) (h1 : i < 5) : ∃ p : Int, atI [.int 2147483647, .int 2147483629, .int 2147483587, .int 2147483579, .int 2147483563] i = some (.int p) ∧ 0 < p ∧ p < 2147483648 := by
  match i, h0, h1 with
  | 0, _, _ => exact ⟨2147483647, rfl, by decide, by decide⟩
  | 1, _, _ => exact ⟨2147483629, rfl, by decide, by decide⟩
  | 2, _, _ => exact ⟨2147483587, rfl, by decide, by decide⟩
  | 3, _, _ => exact ⟨2147483579, rfl, by decide, by decide⟩
  | 4, _, _ => exact ⟨2147483563, rfl, by decide, by decide⟩
theorem tape_tail {many n c : Int} {t : Ts} {P : D → Ts → Prop} (h0 : 0 < many) (hn : n < 100000000) (ha : 0 ≤ c) (hc : c ≤ n) (hp : Pt (n + 1) t) (k : ∀ z t', 0 ≤ z → z < many → Pt (n + 1) t' → P (.int z) t') (v : Int) (s4 s5 s6 s7 : Sl) :
    (dSeq (dAsg (dLst (dCons (dC (.int 2147483647)) (dCons (dC (.int 2147483629)) (dCons (dC (.int 2147483587)) (dCons (dC (.int 2147483579)) (dCons (dC (.int 2147483563)) dNil)))))) (gName 4)) (dSeq (dAsg (dOp oIx (dVar 4) (dOp oMod (dVar 2) (dC (.int 5)))) (gName 5)) (dSeq (dAsg (dOp oMod (dOp oAdd (dOp oAdd (dOp oMul (dOp oMod (dVar 3) (dVar 5)) (dC (.int 48271))) (dOp oMul (dOp oMul (dC (.int 40507)) (dVar 2)) (dVar 2))) (dC (.int 31))) (dVar 5)) (gName 6)) (dSeq (dAsg (dOp oMod (dOp oMul (dVar 6) (dOp oAdd (dVar 6) (dC (.int 69621)))) (dOp oIx (dVar 4) (dOp oMod (dOp oAdd (dVar 2) (dC (.int 2))) (dC (.int 5))))) (gName 6)) (dSeq (dRet (dOp oMod (dOp oDiv (dOp oMod (dOp oMul (dVar 6) (dVar 6)) (dC (.int 2147483549))) (dC (.int 64))) (dVar 1))) dNext))))) (endsOf P) [.val .pen, .val (.int many), .val (.int c), .val (.int v), s4, s5, s6, s7] t := by
  conv => whnf
  refine ⟨by decide, ?_⟩
  conv => whnf
  obtain ⟨p, e, p0, p1⟩ := prime_at (i := c % 5) (Int.emod_nonneg _ (by decide)) (Int.emod_lt_of_pos _ (by decide))
  refine ⟨_, e, ?_⟩
  conv => whnf
  refine ⟨p0, ?_⟩
  conv => whnf
  refine ⟨.r (by decide) (by decide), ?_⟩
  conv => whnf
  refine ⟨.r (by omega) (by omega), ?_⟩
  conv => whnf
  refine ⟨.r (by omega) (by omega), ?_⟩
  conv => whnf
  refine ⟨p0, ?_⟩
  conv => whnf
  have q0 := Int.emod_nonneg (v % p * 48271 + 40507 * c * c + 31) (show p ≠ 0 by omega)
  have q1 := Int.emod_lt_of_pos (v % p * 48271 + 40507 * c * c + 31) p0
  generalize (v % p * 48271 + 40507 * c * c + 31) % p = q at q0 q1
  conv => whnf
  refine ⟨.l (by omega) (by omega), ?_⟩
  conv => whnf
  refine ⟨by decide, ?_⟩
  conv => whnf
  obtain ⟨p2, e2, p20, p21⟩ := prime_at (i := (c + 2) % 5) (Int.emod_nonneg _ (by decide)) (Int.emod_lt_of_pos _ (by decide))
  refine ⟨_, e2, ?_⟩
  conv => whnf
  refine ⟨p20, ?_⟩
  conv => whnf
  have r0 := Int.emod_nonneg (q * (q + 69621)) (show p2 ≠ 0 by omega)
  have r1 := Int.emod_lt_of_pos (q * (q + 69621)) p20
  generalize (q * (q + 69621)) % p2 = r at r0 r1
  conv => whnf
  refine ⟨.l (by omega) (by omega), ?_⟩
  conv => whnf
  refine ⟨by decide, ?_⟩
  conv => whnf
  refine ⟨.s (by decide) (by decide), ?_⟩
  conv => whnf
  refine ⟨h0, ?_⟩
  conv => whnf
  exact k _ _ (Int.emod_nonneg _ (by omega)) (Int.emod_lt_of_pos _ h0) hp
theorem d__law_draw_2_ok (as : List D) (t : Ts) (P : D → Ts → Prop) (h : sp__law_draw_2 as t P) : d__law_draw_2 (endsOf P) (start0 ["_law_tape_here", "_law_many_here", "_law_turn", "_law_cell", "_law_primes", "_law_prime", "_law_drawn", "_law_digit"] as) t := by
  obtain ⟨many, n, rfl, h0, hs, hp, hn, k⟩ := h
  have tp := hp.tp
  have a0 := hp.a0
  have a1 := hp.a1
  conv => whnf
  refine ⟨tp, ?_⟩
  conv => whnf
  refine Br.mk (fun hl => ?_) (fun hl => ?_)
  · have hl : 0 < t.left := of_decide_eq_true hl
    conv => whnf
    refine ⟨tp, ?_⟩
    conv => whnf
    refine ⟨h0, ?_⟩
    conv => whnf
    refine ⟨tp, ?_⟩
    conv => whnf
    refine ⟨⟨h0, hs⟩, ?_⟩
    conv => whnf
    refine ⟨tp, ?_⟩
    conv => whnf
    exact k _ _ (Int.emod_nonneg _ (by omega)) (Int.emod_lt_of_pos _ h0) ⟨hp.c, hp.a0, (by show t.at' ≤ n + 1; omega), Int.ediv_nonneg hp.l (by omega), tp⟩
  · conv => whnf
    refine ⟨tp, ?_⟩
    conv => whnf
    refine ⟨tp, ?_⟩
    conv => whnf
    refine ⟨.l (by omega) (by omega), ?_⟩
    conv => whnf
    have P1 : Pt (n + 1) ⟨t.cells, t.at' + 1, t.left, t.tape, t.obs⟩ := ⟨hp.c, (by show 0 ≤ t.at' + 1; omega), (by show t.at' + 1 ≤ n + 1; omega), hp.l, tp⟩
    refine ⟨eqok_ints t.cells [], ?_⟩
    conv => whnf
    refine Br.mk (fun hc => ?_) (fun hc => ?_)
    · have hc : t.cells ≠ [] := deqn_t (b := []) hc
      have hn0 : 0 < t.cells.length := by
        cases q : t.cells with
        | nil => exact absurd q hc
        | cons => simp
      conv => whnf
      refine ⟨by simpa using hn0, ?_⟩
      conv => whnf
      refine ⟨_, atI_ints (Int.emod_nonneg _ (by simp; omega)) (by simpa using Int.emod_lt_of_pos _ (by simpa using hn0)), ?_⟩
      generalize t.cells.getD _ 0 = v
      conv => whnf
      refine Br.mk (fun hx => ?_) (fun hx => ?_)
      · conv => whnf
        refine ⟨PowOk.s (by decide) (by decide) (by decide) (by decide), ?_⟩
        conv => whnf
        refine Br.mk (fun hy => ?_) (fun hy => ?_)
        · have hy := of_decide_eq_true hy
          conv => whnf
          refine ⟨PowOk.s (by decide) (by decide) (by decide) (by decide), ?_⟩
          conv => whnf
          refine ⟨⟨h0, hs⟩, ?_⟩
          conv => whnf
          refine ⟨tp, ?_⟩
          conv => whnf
          refine ⟨PowOk.s (by decide) (by decide) (by decide) (by decide), ?_⟩
          conv => whnf
          refine ⟨h0, ?_⟩
          conv => whnf
          exact k _ _ (Int.emod_nonneg _ (by omega)) (Int.emod_lt_of_pos _ h0) ⟨hp.c, P1.a0, P1.a1, Int.ediv_nonneg (Int.sub_nonneg_of_le hy) (by omega), tp⟩
        · have z := tape_tail (s4 := .no) (s5 := .no) (s6 := .no) (s7 := .no) h0 hn a0 a1 P1 k v
          conv at z => whnf
          conv => whnf
          exact z
      · have z := tape_tail (s4 := .no) (s5 := .no) (s6 := .no) (s7 := .no) h0 hn a0 a1 P1 k v
        conv at z => whnf
        conv => whnf
        exact z
    · have hc : t.cells = [] := deqn_f (b := []) hc
      conv => whnf
      refine Br.mk (fun hx => ?_) (fun hx => ?_)
      · have hx := of_decide_eq_true hx
        rw [hc] at hx
        exact absurd hx (by show ¬ t.at' < 0; omega)
      · have z := tape_tail (s4 := .no) (s5 := .no) (s6 := .no) (s7 := .no) h0 hn a0 a1 P1 k (41 * t.at' + 3)
        conv at z => whnf
        conv => whnf
        exact z
theorem d__law_pick_2_ok (as : List D) (t : Ts) (P : D → Ts → Prop) (h : sp__law_pick_2 as t P) : d__law_pick_2 (endsOf P) (start0 ["_law_tape_here", "_law_some"] as) t := by
  obtain ⟨n, l, rfl, h1, h2, pm, hn, k⟩ := h
  conv => whnf
  refine ⟨_, _, rfl, by first | omega | decide, (sm64 (by first | omega | decide) (by first | omega | decide)).mono (by decide), pm, by omega, fun u t1 u0 u1 pt1 => ?_⟩
  conv => whnf
  have h : u.toNat < l.length := by omega
  exact ⟨_, atI_nat u0 (List.getElem?_eq_getElem h), k _ _ _ (List.getElem?_eq_getElem h) pt1⟩
theorem d__law_many_2_ok (as : List D) (t : Ts) (P : D → Ts → Prop) (h : sp__law_many_2 as t P) : d__law_many_2 (endsOf P) (start0 ["_law_tape_here", "_law_figures", "_law_found", "_law_k"] as) t := by
  obtain ⟨n, f, rfl, hf, hp, hn, k⟩ := h
  conv => whnf
  refine ⟨.s (by decide) (by decide), ?_⟩
  conv => whnf
  refine ⟨_, n, rfl, by omega, (sm64 (by omega) (by omega)).mono (by decide), hp, by omega, fun c t' hc hc' p' => ?_⟩
  conv => whnf
  refine ⟨by omega, ?_⟩
  conv => whnf
  refine ⟨fun i e m => ∃ z s3, Pt (n + 1 + i) m ∧ 0 ≤ z ∧ z < 1000000 ^ i ∧ e = [.val .pen, .val (.int f), .val (.int z), s3], ⟨0, _, by simpa using p', by decide, by decide, rfl⟩, fun i x e m hx hI => ?_, fun e m hI => ?_⟩
  · obtain ⟨z, s3, pm, hz, hz', rfl⟩ := hI
    obtain ⟨hi, rfl⟩ := rng_get hx
    conv => whnf
    refine ⟨PowOk.s (by decide) (by decide) (by decide) (by decide), ?_⟩
    conv => whnf
    refine ⟨.r (by decide) (by decide), ?_⟩
    conv => whnf
    refine ⟨PowOk.s (by decide) (by decide) (by decide) (by decide), ?_⟩
    conv => whnf
    refine ⟨_, _, rfl, by decide, (sm64 (by decide) (by decide)).mono (by decide), pm, by omega, fun y t2 hy hy' p2 => ?_⟩
    refine ⟨_, _, p2.mono (by omega), ?_, ?_, rfl⟩
    · exact Int.add_nonneg (Int.mul_nonneg hz (by decide)) hy
    · have h1 : (10 : Int) ^ (6 : Int).toNat = 1000000 := by decide
      rw [h1] at hy' ⊢
      rw [Int.pow_succ]
      omega
  · obtain ⟨z, s3, pm, hz, hz', rfl⟩ := hI
    rw [rng_len] at pm hz'
    refine k _ _ hz ?_ (pm.mono (by omega))
    refine Int.lt_of_lt_of_le hz' ?_
    have : ∀ a c : Nat, a ≤ c → (1000000 : Int) ^ a ≤ 1000000 ^ c := fun a c h => by
      obtain ⟨d, rfl⟩ := Nat.le.dest h
      rw [Int.pow_add]
      have h1 := mil_pos a
      have h2 := mil_pos d
      have := Int.mul_le_mul_of_nonneg_left (show (1 : Int) ≤ 1000000 ^ d by omega) (show (0 : Int) ≤ 1000000 ^ a by omega)
      simpa using this
    exact this _ _ (by omega)
theorem d__law_begun_3_ok (as : List D) (t : Ts) (P : D → Ts → Prop) (h : sp__law_begun_3 as t P) : d__law_begun_3 (endsOf P) (start0 ["_law_tape_here", "_law_base", "_law_most", "_law_k"] as) t := by
  obtain ⟨b, most, n, rfl, h2, h30, hm, hs, hp, hn, k⟩ := h
  conv => whnf
  refine ⟨by omega, ?_⟩
  conv => whnf
  refine ⟨fun i acc m => ∃ bs : List Int, acc = bs.map .int ∧ bs.length = i ∧ (∀ x ∈ bs, 1 ≤ x ∧ x ≤ most + 3) ∧ Pt (n + 3 * i) m, ⟨[], rfl, rfl, by simp, by simpa using hp⟩, fun i x acc m hx hI => ?_, fun acc m hI => ?_⟩
  · obtain ⟨bs, rfl, hl, hb, pm⟩ := hI
    obtain ⟨hi, rfl⟩ := rng_get hx
    conv => whnf
    refine ⟨rfl, ?_⟩
    conv => whnf
    refine ⟨_, _, rfl, by first | omega | decide, (sm64 (by first | omega | decide) (by first | omega | decide)).mono (by decide), pm, by omega, fun u t1 u0 u1 pt1 => ?_⟩
    conv => whnf
    refine ⟨_, _, rfl, by omega, hs.mono (by decide), pt1, by omega, fun w t2 w0 w1 pt2 => ?_⟩
    conv => whnf
    refine ⟨_, [.int 0, .int u, .int w], rfl, by simp, by simp, pt2, by omega, fun i0 d0 t3 hi0 pt3 => ?_⟩
    obtain ⟨y, rfl, y0, y1⟩ : ∃ y : Int, d0 = .int y ∧ 0 ≤ y ∧ y ≤ most + 2 := by
      match i0, hi0 with
      | 0, e => cases e; exact ⟨0, rfl, by omega, by omega⟩
      | 1, e => cases e; exact ⟨u, rfl, by omega, by omega⟩
      | 2, e => cases e; exact ⟨w, rfl, by omega, by omega⟩
      | _ + 3, e => cases e
    refine ⟨by rw [List.length_map]; unfold zLen; omega, bs ++ [1 + y], by simp, by simp [hl], fun z hz => ?_, pt3.mono (by omega)⟩
    rcases List.mem_append.mp hz with h | h
    · exact hb z h
    · have : z = 1 + y := by simpa using h
      omega
  · obtain ⟨bs, rfl, hl, hb, pm⟩ := hI
    rw [rng_len] at hl pm
    exact k bs m ⟨h2, h30, by omega, fun x hx => (hb x hx).1⟩ (fun x hx => (hb x hx).2) (pm.mono (by omega))
theorem d__law_signed_ok (as : List D) (t : Ts) (P : D → Ts → Prop) (h : sp__law_signed as t P) : d__law_signed (endsOf P) (start0 ["_law_tape_here", "_law_figures"] as) t := by
  obtain ⟨n, f, rfl, hf, hp, hn, k⟩ := h
  conv => whnf
  refine ⟨_, [.int 1, .int (-1), .int 0, .int 1, .int (-1)], rfl, by decide, by decide, hp, by omega, fun i0 d0 t1 hi0 p1 => ?_⟩
  obtain ⟨s, rfl, s0, s1⟩ : ∃ s : Int, d0 = .int s ∧ -1 ≤ s ∧ s ≤ 1 := by
    match i0, hi0 with
    | 0, e => cases e; exact ⟨_, rfl, by decide, by decide⟩
    | 1, e => cases e; exact ⟨_, rfl, by decide, by decide⟩
    | 2, e => cases e; exact ⟨_, rfl, by decide, by decide⟩
    | 3, e => cases e; exact ⟨_, rfl, by decide, by decide⟩
    | 4, e => cases e; exact ⟨_, rfl, by decide, by decide⟩
    | _ + 5, e => cases e
  clear hi0
  conv => whnf
  refine ⟨_, _, rfl, by first | omega | decide, (sm64 (by first | omega | decide) (by first | omega | decide)).mono (by decide), p1, by omega, fun u t2 u0 u1 pt2 => ?_⟩
  conv => whnf
  refine ⟨_, f, rfl, hf, pt2, by omega, fun z t3 z0 z1 p3 => ?_⟩
  conv => whnf
  refine ⟨_, [.int u, .int z], rfl, by simp, by simp, p3, by omega, fun i1 d1 t4 hi1 p4 => ?_⟩
  have hM := mil_ge (f := f / 6 + 1) (by omega)
  obtain ⟨y, rfl, y0, y1⟩ : ∃ y : Int, d1 = .int y ∧ 0 ≤ y ∧ y ≤ 1000000 ^ (f / 6 + 1) := by
    match i1, hi1 with
    | 0, e => cases e; exact ⟨_, rfl, by omega, by omega⟩
    | 1, e => cases e; exact ⟨_, rfl, by omega, by omega⟩
    | _ + 2, e => cases e
  conv => whnf
  refine ⟨.l (by omega) (by omega), ?_⟩
  conv => whnf
  refine k _ _ ?_ (p4.mono (by omega))
  have := sm_mil y0 y1
  have e : (s * y).natAbs ≤ y.natAbs := by
    rw [Int.natAbs_mul]
    have : s.natAbs ≤ 1 := by omega
    exact Nat.le_trans (Nat.mul_le_mul_right _ this) (by simp)
  exact Nat.lt_of_le_of_lt e (Nat.lt_of_lt_of_le this (Nat.pow_le_pow_right (by decide) (by omega)))
end Q
/-! MMark -/
namespace Q
open PySem
/-! ### marks: the power below a number, marks by it, shares -/
def pw (b n : Int) : Int := if h : 0 < n ∧ 2 ≤ b then (if n < b then 1 else b * pw b (n / b)) else 1
termination_by n.toNat
decreasing_by exact ediv_toNat_lt h
theorem pw_lt {b n : Int} (h : n < b) : pw b n = 1 := by
  rw [pw]
  split
  · first | rfl | rw [if_pos h]
  · rfl
theorem pw_ge {b n : Int} (hb : 2 ≤ b) (h : b ≤ n) : pw b n = b * pw b (n / b) := by
  rw [pw, dif_pos ⟨by omega, hb⟩, if_neg (by omega)]
theorem pw_spec {b : Int} (hb : 2 ≤ b) : ∀ (k : Nat) (n : Int), n.toNat ≤ k → 1 ≤ n → 1 ≤ pw b n ∧ pw b n ≤ n ∧ n < b * pw b n
  | 0, n, h0, h1 => by omega
  | k + 1, n, h0, h1 => by
    by_cases h : n < b
    · rw [pw_lt h]; omega
    · have h3 := ediv_toNat_lt (b := b) (x := n) ⟨by omega, hb⟩
      have h7 : 1 ≤ n / b := by
        have := Int.ediv_le_ediv (show 0 < b by omega) (show b ≤ n by omega)
        rw [Int.ediv_self (by omega)] at this
        exact this
      obtain ⟨i1, i2, i3⟩ := pw_spec hb k (n / b) (by omega) h7
      rw [pw_ge hb (by omega)]
      have e := Int.mul_ediv_add_emod n b
      have r1 := Int.emod_nonneg n (show b ≠ 0 by omega)
      have r2 := Int.emod_lt_of_pos n (show 0 < b by omega)
      generalize n / b = u at *
      generalize pw b u = p at *
      have a1 := Int.mul_le_mul_of_nonneg_left i2 (show 0 ≤ b by omega)
      have a2 := Int.mul_le_mul_of_nonneg_left (show u + 1 ≤ b * p by omega) (show 0 ≤ b by omega)
      have a3 := Int.mul_le_mul_of_nonneg_left i1 (show 0 ≤ b by omega)
      rw [Int.mul_add] at a2
      refine ⟨by omega, by omega, by omega⟩
section
variable {b : Int}
theorem pw_pos (hb : 2 ≤ b) {n : Int} (h : 1 ≤ n) : 1 ≤ pw b n := (pw_spec hb _ n (Nat.le_refl _) h).1
theorem pw_le (hb : 2 ≤ b) {n : Int} (h : 1 ≤ n) : pw b n ≤ n := (pw_spec hb _ n (Nat.le_refl _) h).2.1
theorem pw_up (hb : 2 ≤ b) {n : Int} (h : 1 ≤ n) : n < b * pw b n := (pw_spec hb _ n (Nat.le_refl _) h).2.2
theorem sg_in (hb : 2 ≤ b) {n : Int} (h : 1 ≤ n) : 1 ≤ n / pw b n ∧ n / pw b n < b := by
  have h0 := pw_pos hb h
  have h1 := pw_le hb h
  have h2 := pw_up hb h
  refine ⟨?_, ?_⟩
  · have := Int.ediv_le_ediv (show 0 < pw b n by omega) h1
    rw [Int.ediv_self (by omega)] at this
    exact this
  · exact Int.ediv_lt_of_lt_mul (by omega) h2
theorem rs_in (hb : 2 ≤ b) {n : Int} (h : 1 ≤ n) : 0 ≤ n % pw b n ∧ n % pw b n < pw b n := by
  have h0 := pw_pos hb h
  exact ⟨Int.emod_nonneg _ (by omega), Int.emod_lt_of_pos _ (by omega)⟩
theorem pw_head (hb : 2 ≤ b) {n r : Int} (h : 1 ≤ n) (r0 : 0 ≤ r) (r1 : r < b) : pw b (b * n + r) = b * pw b n := by
  have h1 : b ≤ b * n := by
    have := Int.mul_le_mul_of_nonneg_left h (show 0 ≤ b by omega)
    omega
  have e : (b * n + r) / b = n := by
    rw [Int.mul_add_ediv_left _ _ (by omega), Int.ediv_eq_zero_of_lt r0 r1]
    omega
  rw [pw_ge hb (by omega), e]
/-- what comes behind a sign's mark -/
def mF (b : Int) (ms : List Int) (s : Int) : Int := if s < b - 1 then ms.getD s.toNat 0 else b * ms.getD 0 0
def Mk (b : Int) (ms : List Int) (n : Int) : Int := (pw b n - n % pw b n) * ms.getD (n / pw b n - 1).toNat 0 + n % pw b n * mF b ms (n / pw b n)
/-- by any power -/
theorem Mk_at (hb : 2 ≤ b) (ms : List Int) {p j r : Int} (hp : 1 ≤ p) (j1 : 1 ≤ j) (j2 : j < b) (r0 : 0 ≤ r) (r1 : r < p) (hpw : pw b (j * p + r) = p) : Mk b ms (j * p + r) = (p - r) * ms.getD (j - 1).toNat 0 + r * mF b ms j := by
  unfold Mk
  have e1 : (j * p + r) / p = j := by
    rw [Int.add_comm, Int.add_mul_ediv_right _ _ (by omega), Int.ediv_eq_zero_of_lt r0 r1]
    omega
  have e2 : (j * p + r) % p = r := by
    rw [Int.add_comm, Int.add_mul_emod_self_right, Int.emod_eq_of_lt r0 r1]
  rw [hpw, e1, e2]
theorem n_is (hb : 2 ≤ b) {n : Int} (h : 1 ≤ n) : n = n / pw b n * pw b n + n % pw b n := by
  have := Int.mul_ediv_add_emod n (pw b n)
  rw [Int.mul_comm] at this
  omega
/-- the power stays up to the next sign's multiple of it -/
theorem pw_same (hb : 2 ≤ b) : ∀ (k : Nat) (n m : Int), n.toNat ≤ k → 1 ≤ n → pw b n ≤ m → m < b * pw b n → pw b m = pw b n
  | 0, n, m, h0, h1, _, _ => by omega
  | k + 1, n, m, h0, h1, m1, m2 => by
    by_cases h : n < b
    · rw [pw_lt h] at m1 m2 ⊢
      exact pw_lt (by omega)
    · have h3 := ediv_toNat_lt (b := b) (x := n) ⟨by omega, hb⟩
      have h7 : 1 ≤ n / b := by
        have := Int.ediv_le_ediv (show 0 < b by omega) (show b ≤ n by omega)
        rw [Int.ediv_self (by omega)] at this
        exact this
      have p1 := pw_pos hb h7
      rw [pw_ge (n := n) hb (by omega)] at m1 m2 ⊢
      have hbm : b ≤ m := by
        have := Int.mul_le_mul_of_nonneg_left p1 (show 0 ≤ b by omega)
        omega
      rw [pw_ge hb hbm, pw_same hb k (n / b) (m / b) (by omega) h7 ?_ ?_]
      · have := Int.ediv_le_ediv (show 0 < b by omega) m1
        rw [Int.mul_ediv_cancel_left _ (by omega)] at this
        exact this
      · rw [Int.mul_comm b (b * _)] at m2
        exact Int.ediv_lt_of_lt_mul (by omega) m2
/-- the next number's mark -/
theorem Mk_next (hb : 2 ≤ b) (ms : List Int) {n : Int} (h : 1 ≤ n) : Mk b ms (n + 1) = (pw b n - n % pw b n - 1) * ms.getD (n / pw b n - 1).toNat 0 + (n % pw b n + 1) * mF b ms (n / pw b n) := by
  have hp := pw_pos hb h
  have hl := pw_le hb h
  have hu := pw_up hb h
  obtain ⟨s1, s2⟩ := sg_in hb h
  obtain ⟨r1, r2⟩ := rs_in hb h
  have e := n_is hb h
  by_cases hr : n % pw b n + 1 < pw b n
  · have hlt : n + 1 < b * pw b n := by
      have := Int.mul_le_mul_of_nonneg_right (show n / pw b n + 1 ≤ b by omega) (show 0 ≤ pw b n by omega)
      rw [Int.add_mul, Int.one_mul] at this
      omega
    have hs := pw_same hb _ n (n + 1) (Nat.le_refl _) h (by omega) hlt
    generalize hP : pw b n = p at *
    generalize hS : n / p = s at *
    generalize hR : n % p = r at *
    have e2 : n + 1 = s * p + (r + 1) := by omega
    have := Mk_at hb ms (p := p) (j := s) (r := r + 1) hp s1 s2 (by omega) hr (by rw [← e2]; exact hs)
    rw [e2, this, show p - (r + 1) = p - r - 1 by omega]
  · have hr : n % pw b n + 1 = pw b n := by omega
    have e2 : n + 1 = (n / pw b n + 1) * pw b n := by rw [Int.add_mul, Int.one_mul]; omega
    by_cases hs : n / pw b n < b - 1
    · have hlt : n + 1 < b * pw b n := by
        have := Int.mul_le_mul_of_nonneg_right (show n / pw b n + 1 + 1 ≤ b by omega) (show 0 ≤ pw b n by omega)
        rw [Int.add_mul, Int.one_mul, ← e2] at this
        omega
      have hq := pw_same hb _ n (n + 1) (Nat.le_refl _) h (by omega) hlt
      generalize hP : pw b n = p at *
      generalize hS : n / p = s at *
      have e3 : n + 1 = (s + 1) * p + 0 := by omega
      have := Mk_at hb ms (p := p) (j := s + 1) (r := 0) hp (by omega) (by omega) (by omega) (by omega) (by rw [← e3]; exact hq)
      rw [e3, this, hr, show p - n % p - 1 = 0 by omega]
      unfold mF
      rw [if_pos hs, show (s + 1 - 1).toNat = s.toNat by omega]
      simp
    · have hs : n / pw b n = b - 1 := by omega
      have e3 : n + 1 = b * pw b n := by rw [e2, hs, show b - 1 + 1 = b by omega]
      have hq : pw b (n + 1) = b * pw b n := by
        have := pw_same hb _ (b * n) (n + 1) (Nat.le_refl _) (by have := Int.mul_le_mul_of_nonneg_left h (show 0 ≤ b by omega); omega)
        have hh := pw_head hb h (r := 0) (by omega) (by omega)
        rw [Int.add_zero] at hh
        rw [hh] at this
        refine this (by omega) ?_
        have h9 := Int.mul_le_mul_of_nonneg_left (show (2 : Int) ≤ b by omega) (show 0 ≤ b * pw b n by omega)
        rw [Int.mul_comm b (b * pw b n)]
        omega
      have := Mk_at hb ms (p := b * pw b n) (j := 1) (r := 0) (by omega) (by omega) (by omega) (by omega) (by omega) (by rw [show 1 * (b * pw b n) + 0 = n + 1 by omega]; exact hq)
      rw [show 1 * (b * pw b n) + 0 = n + 1 by omega] at this
      rw [this, hr, show pw b n - n % pw b n - 1 = 0 by omega, hs]
      unfold mF
      rw [if_neg (show ¬ b - 1 < b - 1 by omega)]
      simp
      rw [Int.mul_comm b (pw b n), Int.mul_assoc]
/-- marks lie between those of the heads -/
theorem Mk_head (hb : 2 ≤ b) (ms : List Int) {n r : Int} (h : 1 ≤ n) (r0 : 0 ≤ r) (r1 : r < b) : Mk b ms (b * n + r) = (b - r) * Mk b ms n + r * Mk b ms (n + 1) := by
  have hp := pw_pos hb h
  obtain ⟨s1, s2⟩ := sg_in hb h
  obtain ⟨q1, q2⟩ := rs_in hb h
  have e := n_is hb h
  have hh := pw_head hb h r0 r1
  rw [Mk_next hb ms h]
  unfold Mk
  rw [hh]
  generalize hP : pw b n = p at *
  generalize hS : n / p = s at *
  generalize hR : n % p = ρ at *
  have hbr : b * ρ + r < b * p := by
    have := Int.mul_le_mul_of_nonneg_left (show ρ + 1 ≤ p by omega) (show 0 ≤ b by omega)
    rw [Int.mul_add] at this
    omega
  have hbr0 : 0 ≤ b * ρ := Int.mul_nonneg (by omega) q1
  have e3 : b * n + r = (b * ρ + r) + s * (b * p) := by
    rw [e, Int.mul_add, ← Int.mul_assoc, Int.mul_comm b s, Int.mul_assoc]
    omega
  have hbp : 0 < b * p := Int.mul_pos (by omega) (by omega)
  have e1 : (b * n + r) / (b * p) = s := by
    rw [e3, Int.add_mul_ediv_right _ _ (by omega), Int.ediv_eq_zero_of_lt (by omega) hbr]
    omega
  have e2 : (b * n + r) % (b * p) = b * ρ + r := by
    rw [e3, Int.add_mul_emod_self_right, Int.emod_eq_of_lt (by omega) hbr]
  rw [e1, e2]
  generalize ms.getD (s - 1).toNat 0 = A
  generalize mF b ms s = F
  have c1 : (b - r) * ((p - ρ) * A + ρ * F) + r * ((p - ρ - 1) * A + (ρ + 1) * F) = ((b - r) * (p - ρ) + r * (p - ρ - 1)) * A + ((b - r) * ρ + r * (ρ + 1)) * F := by
    simp only [Int.mul_add, Int.add_mul, Int.mul_assoc]
    omega
  rw [c1]
  congr 2
  · simp only [Int.mul_sub, Int.sub_mul, Int.mul_one]
    omega
  · simp only [Int.mul_add, Int.sub_mul, Int.mul_one]
    omega
end
end Q
/-! MMark2 -/
namespace Q
open PySem
/-! ### rows' sums of products -/
def dot (l ms : List Int) : Int := (List.zipWith (· * ·) l ms).sum
theorem dot_cons (x y : Int) (l ms : List Int) : dot (x :: l) (y :: ms) = x * y + dot l ms := by simp [dot]
theorem dot_set : ∀ (l ms : List Int) (i : Nat) (x : Int), i < l.length → l.length = ms.length → dot (l.set i x) ms = dot l ms + (x - l.getD i 0) * ms.getD i 0
  | [], _, _, _, h, _ => by simp at h
  | y :: l, [], _, _, _, h => by simp at h
  | y :: l, z :: ms, 0, x, _, _ => by
    simp only [List.set_cons_zero, dot_cons, List.getD_cons_zero, Int.sub_mul]
    omega
  | y :: l, z :: ms, i + 1, x, h, e => by
    have := dot_set l ms i x (by simpa using h) (by simpa using e)
    simp only [List.set_cons_succ, dot_cons, List.getD_cons_succ, this]
    omega
theorem dot_zero : ∀ (n : Nat) (ms : List Int), dot (List.replicate n 0) ms = 0
  | 0, ms => by simp [dot]
  | n + 1, [] => by simp [dot]
  | n + 1, z :: ms => by
    rw [List.replicate_succ, dot_cons, dot_zero n ms]
    omega
/-! ### shares -/
def sh0 (b n : Int) : List Int := (List.replicate (b - 1).toNat 0).set (n / pw b n - 1).toNat (pw b n - n % pw b n)
def sh (b n : Int) : List Int := if n / pw b n < b - 1 then (sh0 b n).set (n / pw b n).toNat (n % pw b n) else (sh0 b n).set 0 ((sh0 b n).getD 0 0 + b * (n % pw b n))
theorem sh0_len (b n : Int) : (sh0 b n).length = (b - 1).toNat := by simp [sh0]
theorem sh_len (b n : Int) : (sh b n).length = (b - 1).toNat := by
  unfold sh
  split <;> simp [sh0_len]
theorem getD_rep (n i : Nat) : (List.replicate n (0 : Int)).getD i 0 = 0 := by
  rw [List.getD_eq_getElem?_getD, List.getElem?_replicate]
  split <;> rfl
theorem getD_set_ne {l : List Int} {i j : Nat} {x : Int} (h : i ≠ j) : (l.set i x).getD j 0 = l.getD j 0 := by
  rw [List.getD_eq_getElem?_getD, List.getElem?_set_ne h, List.getD_eq_getElem?_getD]
section
variable {b : Int}
theorem sh_dot (hb : 2 ≤ b) {n : Int} (h : 1 ≤ n) {ms : List Int} (hm : (ms.length : Int) = b - 1) : dot (sh b n) ms = Mk b ms n := by
  obtain ⟨s1, s2⟩ := sg_in hb h
  have d0 : dot (sh0 b n) ms = (pw b n - n % pw b n) * ms.getD (n / pw b n - 1).toNat 0 := by
    unfold sh0
    rw [dot_set _ _ _ _ (by rw [List.length_replicate]; omega) (by rw [List.length_replicate]; omega), dot_zero, getD_rep]
    simp
  unfold sh Mk mF
  by_cases hs : n / pw b n < b - 1
  · rw [if_pos hs, if_pos hs, dot_set _ _ _ _ (by rw [sh0_len]; omega) (by rw [sh0_len]; omega), d0]
    have : (sh0 b n).getD (n / pw b n).toNat 0 = 0 := by
      unfold sh0
      rw [getD_set_ne (by omega), getD_rep]
    rw [this]
    simp
  · rw [if_neg hs, if_neg hs, dot_set _ _ _ _ (by rw [sh0_len]; omega) (by rw [sh0_len]; omega), d0]
    rw [show (sh0 b n).getD 0 0 + b * (n % pw b n) - (sh0 b n).getD 0 0 = b * (n % pw b n) by omega, Int.mul_comm b (n % pw b n), Int.mul_assoc]
theorem Mk_one (hb : 2 ≤ b) (ms : List Int) {n : Int} (h : 1 ≤ n) (hn : n < b) : Mk b ms n = ms.getD (n - 1).toNat 0 := by
  unfold Mk
  rw [pw_lt hn, Int.ediv_one, Int.emod_one]
  simp
theorem sh_nn (hb : 2 ≤ b) {n : Int} (h : 1 ≤ n) : ∀ x ∈ sh b n, 0 ≤ x := by
  obtain ⟨r0, r1⟩ := rs_in hb h
  have h0 : ∀ x ∈ sh0 b n, 0 ≤ x := fun x hx => by
    rcases List.mem_or_eq_of_mem_set hx with hx | hx
    · rw [List.eq_of_mem_replicate hx]; exact Int.le_refl 0
    · omega
  intro x hx
  unfold sh at hx
  split at hx
  · rcases List.mem_or_eq_of_mem_set hx with hx | hx
    · exact h0 x hx
    · omega
  · rcases List.mem_or_eq_of_mem_set hx with hx | hx
    · exact h0 x hx
    · have h3 : 0 ≤ (sh0 b n).getD 0 0 := by
        rw [List.getD_eq_getElem?_getD]
        cases q : (sh0 b n)[0]? with
        | none => exact Int.le_refl 0
        | some z => exact h0 z (List.mem_of_getElem? q)
      have := Int.mul_nonneg (show 0 ≤ b by omega) r0
      omega
end
/-! ### THE RULE for marks -/
end Q
/-! MMark3 -/
namespace Q
open PySem
theorem sd_leT {b : Int} {bs : List Int} (h : Hou b bs) {p : Int} (h1 : 1 ≤ p) : sd b bs p ≤ p := by
  have s := sd_sa h h1
  have := Lp_ge_self h (n := sd b bs p - 1) (by have := s.m1; omega)
  have := s.lo
  omega
theorem sd_sm {b : Int} {bs : List Int} (h : Hou b bs) {p : Int} {x : Nat} (h1 : 1 ≤ p) (hs : Sm x p) : Sm x (sd b bs p) := Sm.of (by have := sd_pos h p; omega) (sd_leT h h1) hs
def sp_parted : PSp := fun ds t P => ∃ b n, ds = [.int n, .int b] ∧ 2 ≤ b ∧ b ≤ 30 ∧ 1 ≤ n ∧ Sm 8000 n ∧ P (.tup [.int (pw b n), .int (n / pw b n), .int (n % pw b n)]) t
/-- a row of marks, a list or a tuple -/
def Row (d : D) (ms : List Int) : Prop := d = .lst (ms.map .int) ∨ d = .tup (ms.map .int)
def sp_mark_by : PSp := fun ds t P => ∃ b n d ms, ds = [.int b, d, .int n] ∧ Row d ms ∧ (ms.length : Int) = b - 1 ∧ 2 ≤ b ∧ b ≤ 30 ∧ HSm 8000 ms ∧ 1 ≤ n ∧ Sm 8000 n ∧ P (.int (Mk b ms n)) t
theorem len_parted (as : List D) (t : Ts) (P : D → Ts → Prop) (h : sp_parted as t P) : as.length = 2 := by first | (obtain ⟨_, rfl, _⟩ := h; rfl) | (obtain ⟨_, _, rfl, _⟩ := h; rfl) | (obtain ⟨_, _, _, rfl, _⟩ := h; rfl) | (obtain ⟨_, _, _, _, rfl, _⟩ := h; rfl) | (obtain ⟨_, _, _, _, _, rfl, _⟩ := h; rfl) | (obtain ⟨_, _, _, _, _, _, rfl, _⟩ := h; rfl) | (obtain ⟨_, _, _, _, _, _, _, rfl, _⟩ := h; rfl) | (obtain ⟨_, _, _, _, _, _, _, _, rfl, _⟩ := h; rfl) | (obtain ⟨_, rfl | rfl, _⟩ := h <;> rfl) | (obtain ⟨_, _, rfl | rfl, _⟩ := h <;> rfl) | (obtain ⟨_, _, _, rfl | rfl, _⟩ := h <;> rfl) | (obtain ⟨_, _, _, _, rfl | rfl, _⟩ := h <;> rfl) | (obtain ⟨_, _, _, _, _, rfl | rfl, _⟩ := h <;> rfl) | (obtain ⟨_, _, _, _, _, _, rfl | rfl, _⟩ := h <;> rfl) | (obtain ⟨_, _, _, _, _, _, _, rfl | rfl, _⟩ := h <;> rfl) | (obtain ⟨_, _, _, _, _, _, _, _, rfl | rfl, _⟩ := h <;> rfl)
theorem len_mark_by (as : List D) (t : Ts) (P : D → Ts → Prop) (h : sp_mark_by as t P) : as.length = 3 := by first | (obtain ⟨_, rfl, _⟩ := h; rfl) | (obtain ⟨_, _, rfl, _⟩ := h; rfl) | (obtain ⟨_, _, _, rfl, _⟩ := h; rfl) | (obtain ⟨_, _, _, _, rfl, _⟩ := h; rfl) | (obtain ⟨_, _, _, _, _, rfl, _⟩ := h; rfl) | (obtain ⟨_, _, _, _, _, _, rfl, _⟩ := h; rfl) | (obtain ⟨_, _, _, _, _, _, _, rfl, _⟩ := h; rfl) | (obtain ⟨_, _, _, _, _, _, _, _, rfl, _⟩ := h; rfl) | (obtain ⟨_, rfl | rfl, _⟩ := h <;> rfl) | (obtain ⟨_, _, rfl | rfl, _⟩ := h <;> rfl) | (obtain ⟨_, _, _, rfl | rfl, _⟩ := h <;> rfl) | (obtain ⟨_, _, _, _, rfl | rfl, _⟩ := h <;> rfl) | (obtain ⟨_, _, _, _, _, rfl | rfl, _⟩ := h <;> rfl) | (obtain ⟨_, _, _, _, _, _, rfl | rfl, _⟩ := h <;> rfl) | (obtain ⟨_, _, _, _, _, _, _, rfl | rfl, _⟩ := h <;> rfl) | (obtain ⟨_, _, _, _, _, _, _, _, rfl | rfl, _⟩ := h <;> rfl)
def d_parted : DS := (dSeq (dAsg (dC (.int 1)) (gName 2)) (dSeq (dWhile (dB (dOp oLe (dOp oMul (dVar 2) (dVar 1)) (dVar 0))) (dSeq (dAug 2 oMulI (dVar 1)) dNext)) (dSeq (dRet (dTup (dCons (dVar 2) (dCons (dOp oDiv (dVar 0) (dVar 2)) (dCons (dOp oMod (dVar 0) (dVar 2)) dNil))))) dNext)))
def d_mark_by : DS := (dSeq (dAsg (dCall sp_parted [] (dCons (dVar 2) (dCons (dVar 0) dNil))) (gTup 3 (gCons (gName 4) (gCons (gName 5) (gCons (gName 6) gNil))))) (dSeq (dAsg (dIfE (dB (dOp oLt (dVar 5) (dOp oSub (dVar 0) (dC (.int 1))))) (dOp oIx (dVar 1) (dVar 5)) (dOp oMul (dVar 0) (dOp oIx (dVar 1) (dC (.int 0))))) (gName 3)) (dSeq (dRet (dOp oAdd (dOp oMul (dOp oSub (dVar 4) (dVar 6)) (dOp oIx (dVar 1) (dOp oSub (dVar 5) (dC (.int 1))))) (dOp oMul (dVar 6) (dVar 3)))) dNext)))
theorem d_parted_ok (as : List D) (t : Ts) (P : D → Ts → Prop) (h : sp_parted as t P) : d_parted (endsOf P) (start0 ["number", "base", "power"] as) t := by
  obtain ⟨b, n, rfl, h2, h30, h1, hs, k⟩ := h
  conv => whnf
  refine ⟨fun e m => t = m ∧ ∃ p : Int, 1 ≤ p ∧ p ≤ n ∧ pw b n = p * pw b (n / p) ∧ e = [.val (.int n), .val (.int b), .val (.int p)], fun e _ => match e with | [_, _, .val (.int p)] => (n - p).toNat | _ => 0, ⟨rfl, 1, by decide, h1, by simp, rfl⟩, fun e m hI => ?_⟩
  obtain ⟨rfl, p, p1, pn, hp, rfl⟩ := hI
  conv => whnf
  refine ⟨.r (by omega) (by omega), ?_⟩
  conv => whnf
  have hnp : 1 ≤ n / p := by
    have := Int.ediv_le_ediv (show 0 < p by omega) pn
    rw [Int.ediv_self (by omega)] at this
    exact this
  have hlow := Int.mul_le_mul_of_nonneg_left h2 (show 0 ≤ p by omega)
  refine Br.mk (fun hx => ?_) (fun hx => ?_)
  · have hx := of_decide_eq_true hx
    conv => whnf
    refine ⟨.r (by omega) (by omega), ?_⟩
    conv => whnf
    refine ⟨⟨rfl, p * b, by omega, hx, ?_, rfl⟩, ?_⟩
    · rw [hp]
      have hb : b ≤ n / p := (Int.le_ediv_iff_mul_le (by omega)).mpr (by rw [Int.mul_comm]; exact hx)
      rw [pw_ge h2 hb, Int.ediv_ediv_of_nonneg (by omega), Int.mul_assoc]
    · show (n - p * b).toNat < (n - p).toNat
      omega
  · have hx := of_decide_eq_false hx
    have hb : n / p < b := Int.ediv_lt_of_lt_mul (by omega) (by rw [Int.mul_comm]; omega)
    rw [pw_lt hb, Int.mul_one] at hp
    subst hp
    conv => whnf
    have h0 := pw_pos h2 h1
    have hsp : Sm 8000 (pw b n) := Sm.of (by omega) pn hs
    refine ⟨.w (by omega) hsp (by decide), ?_⟩
    conv => whnf
    refine ⟨by omega, ?_⟩
    conv => whnf
    exact k
theorem row_at {d : D} {ms : List Int} (h : Row d ms) {i : Int} (h0 : 0 ≤ i) (hi : i < ms.length) {P : D → Prop} (k : P (.int (ms.getD i.toNat 0))) : oIx d (.int i) P := by
  rcases h with rfl | rfl
  · exact ⟨_, atI_ints h0 hi, k⟩
  · exact ⟨_, atI_ints h0 hi, k⟩
theorem HSm.at {y : Nat} {ms : List Int} (h : HSm y ms) (i : Nat) : Sm y (ms.getD i 0) := by
  rw [List.getD_eq_getElem?_getD]
  cases q : ms[i]? with
  | none => show (0 : Int).natAbs < 2 ^ y; exact Nat.two_pow_pos y
  | some x => exact h x (List.mem_of_getElem? q)
theorem d_mark_by_ok (as : List D) (t : Ts) (P : D → Ts → Prop) (h : sp_mark_by as t P) : d_mark_by (endsOf P) (start0 ["base", "marks", "number", "further", "power", "sign", "rest"] as) t := by
  obtain ⟨b, n, d, ms, rfl, hr, hl, h2, h30, hm, h1, hs, k⟩ := h
  obtain ⟨s1, s2⟩ := sg_in h2 h1
  obtain ⟨r0, r1⟩ := rs_in h2 h1
  have p1 := pw_pos h2 h1
  have pn := pw_le h2 h1
  have hsp : Sm 8000 (pw b n) := Sm.of (by omega) pn hs
  have hsr : Sm 8000 (n % pw b n) := Sm.of r0 (by omega) hsp
  have hsq : Sm 8000 (pw b n - n % pw b n) := Sm.of (by omega) (by omega) hsp
  conv => whnf
  refine ⟨b, n, rfl, h2, h30, h1, hs, ?_⟩
  conv => whnf
  refine ⟨rfl, ?_⟩
  conv => whnf
  have fin : ∀ F : Int, F = mF b ms (n / pw b n) → Sm 8010 F → (dSeq (dRet (dOp oAdd (dOp oMul (dOp oSub (dVar 4) (dVar 6)) (dOp oIx (dVar 1) (dOp oSub (dVar 5) (dC (.int 1))))) (dOp oMul (dVar 6) (dVar 3)))) dNext) (endsOf P) [.val (.int b), .val d, .val (.int n), .val (.int F), .val (.int (pw b n)), .val (.int (n / pw b n)), .val (.int (n % pw b n))] t := by
    intro F hF hFs
    conv => whnf
    refine row_at hr (by omega) (by omega) ?_
    conv => whnf
    refine ⟨.w (a := 8000) (b := 8000) hsq (hm.at _) (by decide) (by decide) (by decide), ?_⟩
    conv => whnf
    refine ⟨.w (a := 8000) (b := 8010) hsr hFs (by decide) (by decide) (by decide), ?_⟩
    conv => whnf
    subst hF
    exact k
  refine Br.mk (fun hx => ?_) (fun hx => ?_)
  · have hx := of_decide_eq_true hx
    conv => whnf
    refine row_at hr (by omega) (by omega) ?_
    refine fin _ ?_ ((hm.at _).mono (by decide))
    unfold mF
    rw [if_pos hx]
  · have hx := of_decide_eq_false hx
    conv => whnf
    refine row_at hr (by decide) (by omega) ?_
    conv => whnf
    refine ⟨.l (by omega) (by omega), ?_⟩
    conv => whnf
    refine fin _ ?_ ?_
    · unfold mF
      rw [if_neg hx]
      rfl
    · exact (Sm.mul (a := 5) (show Sm 5 b by unfold Sm; omega) (hm.at _)).mono (by decide)
theorem rep_ints (n : Nat) : rep n [D.int 0] = (List.replicate n (0 : Int)).map .int := by
  unfold rep
  induction n with
  | zero => rfl
  | succ n ih => rw [List.replicate_succ, List.flatten_cons, ih, List.replicate_succ]; rfl
theorem ixN_nn {n : Nat} {i : Int} (h0 : 0 ≤ i) (h : i < n) : ixN n i = some i.toNat := by
  unfold ixN
  rw [if_pos h0, if_pos h]
end Q
/-! MMark4 -/
namespace Q
open PySem
def sp__law_whole : PSp := fun ds t P => ∃ d, ds = [d] ∧ tnOk d ∧ P (.bl (isInt d)) t
theorem len__law_whole (as : List D) (t : Ts) (P : D → Ts → Prop) (h : sp__law_whole as t P) : as.length = 1 := by first | (obtain ⟨_, rfl, _⟩ := h; rfl) | (obtain ⟨_, _, rfl, _⟩ := h; rfl) | (obtain ⟨_, _, _, rfl, _⟩ := h; rfl) | (obtain ⟨_, _, _, _, rfl, _⟩ := h; rfl) | (obtain ⟨_, _, _, _, _, rfl, _⟩ := h; rfl) | (obtain ⟨_, _, _, _, _, _, rfl, _⟩ := h; rfl) | (obtain ⟨_, _, _, _, _, _, _, rfl, _⟩ := h; rfl) | (obtain ⟨_, _, _, _, _, _, _, _, rfl, _⟩ := h; rfl) | (obtain ⟨_, rfl | rfl, _⟩ := h <;> rfl) | (obtain ⟨_, _, rfl | rfl, _⟩ := h <;> rfl) | (obtain ⟨_, _, _, rfl | rfl, _⟩ := h <;> rfl) | (obtain ⟨_, _, _, _, rfl | rfl, _⟩ := h <;> rfl) | (obtain ⟨_, _, _, _, _, rfl | rfl, _⟩ := h <;> rfl) | (obtain ⟨_, _, _, _, _, _, rfl | rfl, _⟩ := h <;> rfl) | (obtain ⟨_, _, _, _, _, _, _, rfl | rfl, _⟩ := h <;> rfl) | (obtain ⟨_, _, _, _, _, _, _, _, rfl | rfl, _⟩ := h <;> rfl)
def d__law_whole : DS := (dSeq (dRet (dAndV (dIsi [.int] (dVar 0)) (dNotV (dIsi [.bl] (dVar 0))))) dNext)
theorem d__law_whole_ok (as : List D) (t : Ts) (P : D → Ts → Prop) (h : sp__law_whole as t P) : d__law_whole (endsOf P) (start0 ["_law_thing"] as) t := by
  obtain ⟨d, rfl, ⟨m, hm⟩, k⟩ := h
  cases d <;> (first | exact k | cases hm)
theorem Mk_sm {b : Int} (h2 : 2 ≤ b) (h30 : b ≤ 30) {n : Int} (h1 : 1 ≤ n) {ms : List Int} {x y : Nat} (hm : HSm x ms) (hn : Sm y n) : Sm (x + y + 8) (Mk b ms n) := by
  have p1 := pw_pos h2 h1
  have pn := pw_le h2 h1
  obtain ⟨r0, r1⟩ := rs_in h2 h1
  have a1 : Sm (y + x) ((pw b n - n % pw b n) * ms.getD (n / pw b n - 1).toNat 0) := Sm.mul (Sm.of (by omega) (by omega) hn) (hm.at _)
  have a2 : Sm (y + (5 + x)) (n % pw b n * mF b ms (n / pw b n)) := by
    refine Sm.mul (Sm.of r0 (by omega) hn) ?_
    unfold mF
    split
    · exact (hm.at _).mono (by omega)
    · exact Sm.mul (show Sm 5 b by unfold Sm; omega) (hm.at _)
  exact (Sm.add (a1.mono (by omega : y + x ≤ y + (5 + x))) a2).mono (by omega)
theorem rp_int {x : Int} (h : Sm 1900 x) : RpOk (.int x) := ⟨rfl, by show 0 ≤ 60; decide, h, by show 1921 ≤ zLen; unfold zLen; decide⟩
theorem pick_P {l : List Int} {Pr : Int → Prop} {i : Nat} {d : D} (h : (l.map D.int)[i]? = some d) (hl : ∀ n ∈ l, Pr n) : ∃ f : Int, d = .int f ∧ Pr f := by
  obtain ⟨x, hx, rfl⟩ := map_get h
  exact ⟨x, rfl, hl x (List.mem_of_getElem? hx)⟩
/-- [_law_signed(tape, f) for _ in range(b - 1)] -/
theorem lc_signed {xs : List D} {env : En} {t : Ts} {n : Int} {c f v : Nat} {P : List D → Ts → Prop} (hv : v ≠ 1) (h1 : env[1]? = some (.val .pen)) (hx : xs.length = c) (hf : f ≤ 600) (hc : c ≤ 100) (pm : Pt n t) (hn : n < 1000000)
    (k : ∀ (fs : List Int) t', fs.length = c → HSm (20 * (f / 6 + 1) + 2) fs → Pt (n + c * (6 + f / 6)) t' → P (fs.map .int) t') :
    ∃ Inv : Nat → List D → Ts → Prop, Inv 0 [] t ∧ (∀ i x acc m, xs[i]? = some x → Inv i acc m → gName v x (wipeE env [v]) m fun e' m' => wipeE e' [v] = wipeE env [v] ∧ dYes e' m' fun k m1 => Br k (dCall sp__law_signed [] (dCons (dVar 1) (dCons (dC (.int f)) dNil)) e' m1 fun y m2 => acc.length < zLen ∧ Inv (i + 1) (acc ++ [y]) m2) (Inv (i + 1) acc m1)) ∧ ∀ acc m, Inv xs.length acc m → P acc m := by
  refine ⟨fun j acc m => ∃ fs : List Int, acc = fs.map .int ∧ fs.length = j ∧ HSm (20 * (f / 6 + 1) + 2) fs ∧ Pt (n + j * (6 + f / 6)) m, ⟨[], rfl, rfl, (fun x hx => by cases hx), by simpa using pm⟩, fun j x acc m hx' hI => ?_, fun acc m hI => ?_⟩
  · obtain ⟨fs, rfl, hl, hg, pm⟩ := hI
    have hj : j < c := by rw [← hx]; exact (List.getElem?_eq_some_iff.mp hx').1
    have hjf : ((j : Int)) * (6 + (f : Int) / 6) ≤ 100 * 106 := Int.mul_le_mul (by omega) (by omega) (by omega) (by decide)
    refine ⟨wipe1 env v _, ?_⟩
    have e1 : ((wipeE env [v]).set v (.val x))[1]? = some (.val .pen) := by
      simp only [wipeE]
      rw [List.getElem?_set_ne hv, List.getElem?_set_ne hv]
      exact h1
    show dVar 1 ((wipeE env [v]).set v (.val x)) m _
    unfold dVar
    rw [e1]
    refine ⟨_, f, rfl, by omega, pm, by omega, fun z t2 zs p2 => ?_⟩
    refine ⟨by rw [List.length_map]; unfold zLen; omega, fs ++ [z], by simp, by simp [hl], fun y hy => ?_, p2.mono ?_⟩
    · rcases List.mem_append.mp hy with h | h
      · exact hg y h
      · have : y = z := by simpa using h
        rw [this]; exact zs
    · rw [show ((j + 1 : Nat) : Int) = (j : Int) + 1 by omega, Int.add_mul]
      omega
  · obtain ⟨fs, rfl, hl, hg, pm⟩ := hI
    rw [hx] at hl pm
    exact k fs m hl hg pm
end Q
/-! MPart -/
namespace Q
open PySem
/-! ### where two houses part -/
/-- the least number that is said unlike often -/
structure Ap (b : Int) (bs : List Int) (c : Int) (cs : List Int) (n : Int) : Prop where
  n1 : 1 ≤ n
  ne : Ti b bs n ≠ Ti c cs n
  eq : ∀ m, 1 ≤ m → m < n → Ti b bs m = Ti c cs m
theorem Ap.symm {b c n : Int} {bs cs : List Int} (a : Ap b bs c cs n) : Ap c cs b bs n := ⟨a.n1, fun e => a.ne e.symm, fun m h1 h2 => (a.eq m h1 h2).symm⟩
section
variable {b c : Int} {bs cs : List Int}
theorem ti1 (h : Hou b bs) {n : Int} (h1 : 1 ≤ n) : 1 ≤ Ti b bs n := Ti_pos' h h1
theorem differ_lt (hb : Hou b bs) (hc : Hou c cs) (hlt : b < c) : ¬ ∀ m : Int, 1 ≤ m → m ≤ b + c → Ti b bs m = Ti c cs m := by
  intro h
  have h2 := hb.b2
  have c2 := hc.b2
  have ec : Ti c cs c = Ti c cs 1 + 1 := by
    have := Ti_mul hc (u := 1) (by decide)
    rw [Int.mul_one] at this
    exact this
  have t1 := ti1 hc (n := 1) (by decide)
  by_cases hd : c % b = 0
  · have hu : c = b * (c / b) := by have := Int.mul_ediv_add_emod c b; omega
    have hu1 : 1 ≤ c / b := by
      have := Int.ediv_le_ediv (show 0 < b by omega) (show b ≤ c by omega)
      rw [Int.ediv_self (by omega)] at this
      exact this
    have e1 : Ti b bs (c + b) = Ti b bs (c / b + 1) + 1 := by
      have := Ti_mul hb (u := c / b + 1) (by omega)
      rw [Int.mul_add, ← hu, Int.mul_one] at this
      exact this
    have e2 : Ti c cs (c + b) = 1 := Ti_one hc (by omega) (by
      rw [Int.add_comm, Int.add_emod_right, Int.emod_eq_of_lt (by omega) hlt]
      omega)
    have t2 := ti1 hb (n := c / b + 1) (by omega)
    have := h (c + b) (by omega) (by omega)
    omega
  · have e1 := Ti_one hb (n := c) (by omega) hd
    have := h c (by omega) (by omega)
    omega
theorem differ_eq (hb : Hou b bs) (hc : Hou b cs) (hne : bs ≠ cs) : ¬ ∀ m : Int, 1 ≤ m → m ≤ b + b → Ti b bs m = Ti b cs m := by
  intro h
  have l1 := hb.len
  have l2 := hc.len
  apply hne
  refine List.ext_getElem (by omega) fun i h1 h2 => ?_
  have e := h (i + 1) (by omega) (by omega)
  rw [Ti_lt hb (by omega) (by omega), Ti_lt hc (by omega) (by omega), show ((i : Int) + 1 - 1).toNat = i by omega] at e
  rw [List.getD_eq_getElem?_getD, List.getD_eq_getElem?_getD, List.getElem?_eq_getElem h1, List.getElem?_eq_getElem h2] at e
  exact e
theorem differ (hb : Hou b bs) (hc : Hou c cs) (hne : ¬ (b = c ∧ bs = cs)) : ¬ ∀ m : Int, 1 ≤ m → m ≤ b + c → Ti b bs m = Ti c cs m := by
  rcases Int.lt_trichotomy b c with h | h | h
  · exact differ_lt hb hc h
  · subst h
    exact differ_eq hb hc fun e => hne ⟨rfl, e⟩
  · intro z
    exact differ_lt hc hb h fun m h1 h2 => (z m h1 (by omega)).symm
theorem Ap.le (hb : Hou b bs) (hc : Hou c cs) (hne : ¬ (b = c ∧ bs = cs)) {n : Int} (a : Ap b bs c cs n) : n ≤ b + c := by
  rcases Int.lt_or_le (b + c) n with h | h
  · exact absurd (fun m h1 h2 => a.eq m h1 (by omega)) (differ hb hc hne)
  · exact h
end
end Q
/-! MRow -/
namespace Q
open PySem
/-! ### a row gone one by one -/
theorem cut_own {l : List Int} {a : Nat} : cutD (l.map D.int) none (some (a : Int)) = (l.take a).map D.int := by
  unfold cutD
  have e1 : sIx (l.map D.int).length (l.map D.int).length (some (a : Int)) = min a l.length := by
    unfold sIx
    simp
    omega
  rw [e1]
  simp only [sIx, List.drop_zero, Nat.sub_zero, ← List.map_take]
  congr 1
  rw [List.take_eq_take_iff]
  omega
end Q
/-! MRow2 -/
namespace Q
open PySem
/-! ### marks gone one by one -/
/-! ### where one number alone bears a mark -/
end Q
/-! MLast3 -/
namespace Q
open PySem
def sp__law_last_3 : PSp := fun ds t P => ∃ b bs m, ds = [.int b, .lst (bs.map .int), .int m] ∧ Hou b bs ∧ 0 ≤ m ∧ Sm 8000 m ∧ P (.int (Lp b bs m)) t
theorem len__law_last_3 (as : List D) (t : Ts) (P : D → Ts → Prop) (h : sp__law_last_3 as t P) : as.length = 3 := by first | (obtain ⟨_, rfl, _⟩ := h; rfl) | (obtain ⟨_, _, rfl, _⟩ := h; rfl) | (obtain ⟨_, _, _, rfl, _⟩ := h; rfl) | (obtain ⟨_, _, _, _, rfl, _⟩ := h; rfl) | (obtain ⟨_, _, _, _, _, rfl, _⟩ := h; rfl) | (obtain ⟨_, _, _, _, _, _, rfl, _⟩ := h; rfl) | (obtain ⟨_, _, _, _, _, _, _, rfl, _⟩ := h; rfl) | (obtain ⟨_, _, _, _, _, _, _, _, rfl, _⟩ := h; rfl) | (obtain ⟨_, rfl | rfl, _⟩ := h <;> rfl) | (obtain ⟨_, _, rfl | rfl, _⟩ := h <;> rfl) | (obtain ⟨_, _, _, rfl | rfl, _⟩ := h <;> rfl) | (obtain ⟨_, _, _, _, rfl | rfl, _⟩ := h <;> rfl) | (obtain ⟨_, _, _, _, _, rfl | rfl, _⟩ := h <;> rfl) | (obtain ⟨_, _, _, _, _, _, rfl | rfl, _⟩ := h <;> rfl) | (obtain ⟨_, _, _, _, _, _, _, rfl | rfl, _⟩ := h <;> rfl) | (obtain ⟨_, _, _, _, _, _, _, _, rfl | rfl, _⟩ := h <;> rfl)
def d__law_last_3 : DS := (dSeq (dPar3 3 4 5 (dCons (dVar 2) (dCons (dVar 0) (dCons (dC (.int 0)) dNil)))) (dSeq (dWhile (dB (dOp oLe (dVar 4) (dVar 2))) (dSeq (dAsg (dOp oAdd (dVar 3) (dOp oDiv (dVar 2) (dVar 4))) (gName 3)) (dSeq (dPar 4 5 (dCons (dOp oMul (dVar 4) (dVar 0)) (dCons (dOp oAdd (dVar 5) (dC (.int 1))) dNil))) dNext))) (dSeq (dPar 6 7 (dCons (dOp oDiv (dOp oMul (dVar 2) (dVar 0)) (dVar 4)) (dCons (dOp oAdd (dOp oSub (dCB bSum (dCons (dVar 1) dNil)) (dVar 0)) (dC (.int 1))) dNil))) (dSeq (dRet (dOp oSub (dOp oAdd (dOp oAdd (dVar 3) (dOp oMul (dVar 5) (dVar 7))) (dCB bSum (dCons (dSlice (dVar 1) dNoPart (dPart (dVar 6))) dNil))) (dVar 6))) dNext))))
theorem heap_small {b x : Int} (h2 : 2 ≤ b) (h0 : 0 ≤ x) (h : x < b) : heap b x = 0 := by
  by_cases hx : 0 < x
  · rw [heap_pos hx h2, Int.ediv_eq_zero_of_lt h0 h, heap_zero (by decide)]
    rfl
  · exact heap_zero hx
theorem d__law_last_3_ok (as : List D) (t : Ts) (P : D → Ts → Prop) (h : sp__law_last_3 as t P) : d__law_last_3 (endsOf P) (start0 ["_law_base", "_law_begun_here", "_law_number", "_law_found", "_law_power", "_law_exponent", "_law_sign", "_law_back"] as) t := by
  obtain ⟨b, bs, n, rfl, hh, n0, hs, k⟩ := h
  have h2 := hh.b2
  have h30 := hh.b30
  have hl := hh.len
  conv => whnf
  refine ⟨fun e m => t = m ∧ ∃ (i : Nat) (f q : Int), q = b ^ (i + 1) ∧ f + heap b (n / b ^ i) = n + heap b n ∧ (1 ≤ n → b ^ i ≤ n) ∧ (n = 0 → i = 0) ∧ e = [.val (.int b), .val (.lst (bs.map .int)), .val (.int n), .val (.int f), .val (.int q), .val (.int i), .no, .no], fun e _ => match e with | [_, _, _, _, .val (.int q), _, _, _] => (n + 1 - q).toNat | _ => 0, ⟨rfl, 0, n, b, by rw [Int.pow_succ, Int.pow_zero, Int.one_mul], by simp, fun h => by simpa using h, fun _ => rfl, rfl⟩, fun e m hI => ?_⟩
  obtain ⟨rfl, i, f, q, hq, hf, hb, hz, rfl⟩ := hI
  have hpi := pow_pos' (b := b) h2 i
  have hpq := pow_pos' (b := b) h2 (i + 1)
  have hstep : (b : Int) ^ (i + 1) = b ^ i * b := Int.pow_succ ..
  conv => whnf
  refine Br.mk (fun hx => ?_) (fun hx => ?_)
  · have hx := of_decide_eq_true hx
    have hqs : Sm 8000 q := Sm.of (by omega) hx hs
    have e1 : n / b ^ (i + 1) = n / b ^ i / b := by rw [hstep, Int.ediv_ediv_of_nonneg (by omega)]
    have hnb : b ≤ n / b ^ i := (Int.le_ediv_iff_mul_le hpi).mpr (by rw [Int.mul_comm, ← hstep]; omega)
    conv => whnf
    refine ⟨.w (by omega) hqs (by decide), ?_⟩
    conv => whnf
    refine ⟨.r (by omega) (by omega), ?_⟩
    conv => whnf
    refine ⟨⟨rfl, i + 1, f + n / q, q * b, by rw [hq, ← Int.pow_succ], ?_, fun _ => by omega, fun h => by omega, rfl⟩, ?_⟩
    · rw [hq, e1, ← hf, heap_pos (by omega : 0 < n / b ^ i) h2]
      omega
    · show (n + 1 - q * b).toNat < (n + 1 - q).toNat
      have := Int.mul_le_mul_of_nonneg_left h2 (show 0 ≤ q by omega)
      omega
  · have hx := of_decide_eq_false hx
    have hc : n / b ^ i < b := Int.ediv_lt_of_lt_mul hpi (by rw [Int.mul_comm, ← hstep]; omega)
    have hc0 : 0 ≤ n / b ^ i := Int.ediv_nonneg n0 (by omega)
    have hh0 : heap b (n / b ^ i) = 0 := heap_small h2 hc0 hc
    rw [hh0] at hf
    have hsg : n * b / q = n / b ^ i := by
      rw [hq, hstep, Int.mul_ediv_mul_of_pos_left _ _ (by omega)]
    have hqs : Sm 8010 q := by
      by_cases hn : n = 0
      · rw [hq, hz hn]
        show Sm 8010 (b ^ 1)
        rw [Int.pow_succ, Int.pow_zero, Int.one_mul]
        exact (show Sm 5 b by unfold Sm; omega).mono (by decide)
      · rw [hq, hstep]
        exact (Sm.mul (Sm.of (by omega) (hb (by omega)) hs) (show Sm 5 b by unfold Sm; omega)).mono (by decide)
    have hsum := Su_sum (bs := bs) (j := (n / b ^ i).toNat) (by omega)
    conv => whnf
    refine ⟨.r (by omega) (by omega), ?_⟩
    conv => whnf
    refine ⟨.w (by omega) hqs (by decide), ?_⟩
    conv => whnf
    refine ⟨bs, ints_map bs, ?_⟩
    conv => whnf
    have hi8 : i < 8000 := by
      by_cases hn : n = 0
      · rw [hz hn]; decide
      · have a1 := two_pow_le h2 i
        have a2 := hb (by omega)
        have a3 : n < ((2 ^ 8000 : Nat) : Int) := by
          unfold Sm at hs
          omega
        rcases Nat.lt_or_ge i 8000 with z | z
        · exact z
        · exfalso
          have a4 : (2 : Nat) ^ 8000 ≤ 2 ^ i := Nat.pow_le_pow_right (by decide) z
          have a5 : ((2 ^ i : Nat) : Int) = (2 : Int) ^ i := by simp
          omega
    refine ⟨.l (by omega) (by omega), ?_⟩
    conv => whnf
    rw [hsg]
    have hcut : cutD (bs.map D.int) none (some (n / b ^ i)) = (bs.take (n / b ^ i).toNat).map .int := by
      have := cut_own (l := bs) (a := (n / b ^ i).toNat)
      rw [show (((n / b ^ i).toNat : Nat) : Int) = n / b ^ i by omega] at this
      exact this
    rw [hcut]
    refine ⟨_, ints_map _, ?_⟩
    conv => whnf
    have hfin : f + i * (bs.sum - b + 1) + (bs.take (n / b ^ i).toNat).sum - n / b ^ i = Lp b bs n := by
      have hre : bs.sum - b + 1 = Re bs := by have := Re_sum bs; omega
      rw [hre, hsum, show (((n / b ^ i).toNat : Nat) : Int) = n / b ^ i by omega]
      by_cases hn : n = 0
      · have e := hz hn
        subst e
        rw [hn, Int.zero_ediv, Lp_le0 (by decide), Su_zero]
        have : heap b 0 = 0 := heap_zero (by decide)
        rw [hn, this] at hf
        omega
      · have c1 : 1 ≤ n / b ^ i := by
          have := Int.ediv_le_ediv hpi (hb (by omega))
          rw [Int.ediv_self (by omega)] at this
          exact this
        have e1 := Int.mul_ediv_add_emod n (b ^ i)
        have r1 := Int.emod_nonneg n (show b ^ i ≠ 0 by omega)
        have r2 := Int.emod_lt_of_pos n hpi
        rw [Lp_in hh c1 hc i n (by rw [Int.mul_comm]; omega) (by rw [Int.add_mul, Int.one_mul, Int.mul_comm]; omega)]
        omega
    rw [hfin]
    exact k
end Q
/-! MAskM -/
namespace Q
open PySem
/-! ### where places lead: the mathematics -/
def stp (b : Int) (bs : List Int) (p : Int) : Int := p + 1 - Re bs - sd b bs p
def ls (b : Int) (bs : List Int) (s : Nat) (y : Int) : Int := Lp b bs (b ^ s * sd b bs y - 1) + (y - Lp b bs (sd b bs y - 1))
def chF (b : Int) (bs : List Int) : Nat → Int → List Int
  | 0, p => [p]
  | k + 1, p => if bs.sum < p then p :: chF b bs k (stp b bs p) else [p]
def ch (b : Int) (bs : List Int) (p : Int) : List Int := chF b bs p.toNat p
end Q
/-! QD5 -/
namespace Q
open PySem
end Q
/-! QD6 -/
/-! Q, the data level: isinstance with both answers, where instances of the class at C stand beside other things. -/
namespace Q
open PySem
end Q
/-! QD7 -/
/-! Q, the data level: a new object picked out of a list of new objects by a def. -/
namespace Q
open PySem
end Q
/-! QD8 -/
/-! Q, the data level: a name's own list lent to a def that tells a truth. -/
namespace Q
open PySem
/-- no own object but the one in slot i -/
def onlyOwn (i : Nat) : Nat → En → Bool
  | _, [] => true
  | k, .own _ :: e => (k == i) && onlyOwn i (k + 1) e
  | k, _ :: e => onlyOwn i (k + 1) e
/-- e, where the own list in slot i is read as a datum; a truth is told -/
def dLend (i : Nat) (de : DE) : DE := fun env t P => match env[i]? with
  | some (.own (.lst (.tup x :: l))) => onlyOwn i 0 env = true ∧ de (env.set i (.val (.lst (.tup x :: l)))) t.bare fun r t1 => (match r with
    | .bl b => P (.bl b) (t1.wear t.obs)
    | _ => False)
  | _ => False
end Q
/-! QD9 -/
/-! Q, the data level: str of a whole number. -/
namespace Q
open PySem
end Q
/-! QD10 -/
namespace Q
open PySem
end Q
/-! QD11 -/
namespace Q
open PySem
end Q
/-! QD12 -/
/-! Q, the data level, more of it. -/
namespace Q
open PySem
end Q
namespace Q
open PySem
end Q
/-! QO0 -/
/-! Q, the data level: objects that may change, by their addresses. -/
namespace Q
open PySem
/- a field is put -/
/-! ### texts -/
/-! ### more -/
end Q
/-! QD13 -/
/-! Q, the data level: what may raise, any expression. -/
namespace Q
open PySem
end Q
/-! QD14 -/
/-! Q, the data level: lists that hold instances, compared where all is equal. -/
namespace Q
open PySem
/-- no pen, no objects -/
def T0 : Ts := ⟨[], 0, 0, false, noObs⟩
end Q
/-! QD15 -/
/-! Q, the data level: sorted(set(l)), l a list of texts. -/
namespace Q
open PySem
end Q
/-! QD16 -/
namespace Q
open PySem
end Q
/-! QD17 -/
namespace Q
open PySem
end Q
/-! QD18 -/
namespace Q
open PySem
/-- repr, of {} too -/
def bReprE : DB := fun xs P => match xs with
  | [.dic [] []] => P (.str "{}")
  | [x] => RpOk x ∧ P (.rp x)
  | _ => False
/-- texts that repr tells, compared; {}'s too -/
def oNeX : DOp := fun x y P => match x, y with
  | .rp a, .rp b => ∀ k : Bool, (a = b → k = false) → P (.bl k)
  | .str a, .str b => P (.bl (!decide (a = b)))
  | _, _ => False
end Q
/-! QD19 -/
namespace Q
open PySem
/-! ### rows of data of which the texts are told apart -/
def Pt38 (d : D) : Prop := d = .non ∨ (∃ b, d = .bl b) ∨ (∃ i, d = .int i) ∨ d = .str "0" ∨ ∃ i, d = .tup [.int i]
def Rw38 (d : D) : Prop := Pt38 d ∨ (∃ ps, d = .tup ps ∧ ∀ p ∈ ps, Pt38 p) ∨ ∃ ps, d = .lst ps
def Du38 (d : D) : Prop := ∃ a b c, d = .tup [.int a, .int b, .int c]
/-- the texts of two lists that repr tells -/
def oEqT : DOp := fun x y P => match x, y with
  | .rp (.lst a), .rp (.lst b) => ((∀ d ∈ a, Rw38 d) ∧ ∀ d ∈ b, Du38 d) ∧ ∀ k : Bool, (k = true ↔ a = b) → P (.bl k)
  | _, _ => False
/-- repr as a text of which nothing but its length is known -/
def bReprS : DB := fun xs P => match xs with
  | [.lst l] => ((∀ d ∈ l, Du38 d) ∧ RpOk (.lst l)) ∧ ∀ s : Str, plain (.str s) = true → s.length ≤ rsz (.lst l) → P (.str s)
  | _ => False
end Q
/-! M_k38a -/
namespace Q
open PySem
/-! ### a number and its heads -/
def hdN (b n : Int) : List Int := if h : 0 < n ∧ 2 ≤ b then (if n < b then [n] else n :: hdN b (n / b)) else [n]
termination_by n.toNat
decreasing_by exact ediv_toNat_lt h
theorem hdN_lt {b n : Int} (h : n < b) : hdN b n = [n] := by
  unfold hdN
  by_cases z : 0 < n ∧ 2 ≤ b
  · rw [dif_pos z, if_pos h]
  · rw [dif_neg z]
theorem hdN_ge {b n : Int} (hb : 2 ≤ b) (h : b ≤ n) : hdN b n = n :: hdN b (n / b) := by
  conv => lhs; unfold hdN
  rw [dif_pos ⟨by omega, hb⟩, if_neg (by omega)]
theorem hdN_head {b n : Int} : ∃ r, hdN b n = n :: r := by
  unfold hdN
  split
  · split
    · exact ⟨_, rfl⟩
    · exact ⟨_, rfl⟩
  · exact ⟨_, rfl⟩
theorem hdN_len {b : Int} (hb : 2 ≤ b) : ∀ (k : Nat) (n : Int), n < 2 ^ k → (hdN b n).length ≤ k + 1
  | 0, n, h => by
    rw [hdN_lt (by omega)]
    simp
  | k + 1, n, h => by
    by_cases z : n < b
    · rw [hdN_lt z]
      simp
    · rw [hdN_ge hb (by omega), List.length_cons]
      have := hdN_len hb k (n / b) (Int.ediv_lt_of_lt_mul (by omega) (by
        have e : (2 : Int) ^ (k + 1) = 2 ^ k * 2 := Int.pow_succ 2 k
        have := Int.mul_le_mul_of_nonneg_left hb (show (0 : Int) ≤ 2 ^ k by exact Int.le_of_lt (Int.pow_pos (by decide)))
        omega))
      omega
theorem hdN_sm {b n : Int} {c : Nat} (hb : 2 ≤ b) (h1 : 1 ≤ n) (hs : Sm c n) : (hdN b n).length ≤ c + 1 := by
  refine hdN_len hb c n ?_
  unfold Sm at hs
  have e : ((2 ^ c : Nat) : Int) = (2 : Int) ^ c := by simp
  omega
theorem hdN_mem {b : Int} (hb : 2 ≤ b) : ∀ (k : Nat) (n : Int), n.toNat ≤ k → 1 ≤ n → ∀ x ∈ hdN b n, 1 ≤ x ∧ x ≤ n
  | 0, n, hk, h1 => by omega
  | k + 1, n, hk, h1 => by
    intro x hx
    by_cases z : n < b
    · rw [hdN_lt z, List.mem_singleton] at hx
      omega
    · rw [hdN_ge hb (by omega)] at hx
      rcases List.mem_cons.mp hx with rfl | hx
      · omega
      · have e1 : 1 ≤ n / b := (Int.le_ediv_iff_mul_le (by omega)).mpr (by omega)
        have e2 : n / b < n := Int.ediv_lt_of_lt_mul (by omega) (by
          have := Int.mul_le_mul_of_nonneg_left hb (show 0 ≤ n by omega)
          omega)
        have := hdN_mem hb k (n / b) (by omega) e1 x hx
        omega
def mrD (b : Int) (ms : List Int) (n : Int) : D := .tup [.int n, .int (Mk b ms n), .int (Mk b ms (n + 1))]
def mpD (b : Int) (ms : List Int) (n : Int) : List D := (hdN b n).map (mrD b ms)
def sp__law_dot : PSp := fun ds t P => ∃ xs ys : List Int, ds = [.lst (xs.map .int), .lst (ys.map .int)] ∧ xs.length = ys.length ∧ xs.length ≤ 1000 ∧ HSm 700 xs ∧ HSm 700 ys ∧ P (.int (dot xs ys)) t
def sp__law_shares : PSp := fun ds t P => ∃ b n, ds = [.int b, .int n] ∧ 2 ≤ b ∧ b ≤ 30 ∧ 1 ≤ n ∧ Sm 690 n ∧ P (.lst ((sh b n).map .int)) t
def sp__law_mark : PSp := fun ds t P => ∃ b n, ∃ ms : List Int, ds = [.int b, .lst (ms.map .int), .int n] ∧ (ms.length : Int) = b - 1 ∧ 2 ≤ b ∧ b ≤ 30 ∧ HSm 700 ms ∧ 1 ≤ n ∧ Sm 690 n ∧ P (.int (Mk b ms n)) t
def sp__law_paper_2 : PSp := fun ds t P => ∃ b n, ∃ ms : List Int, ds = [.int b, .lst (ms.map .int), .int n] ∧ (ms.length : Int) = b - 1 ∧ 2 ≤ b ∧ b ≤ 30 ∧ HSm 700 ms ∧ 1 ≤ n ∧ Sm 680 n ∧ P (.lst (mpD b ms n)) t
def sp_mark_paper_2 (W : Cl) : PSp := fun ds t P => ∃ b bs p d ms, ds = [hD W b bs, d, .int p] ∧ Hou b bs ∧ Row d ms ∧ (ms.length : Int) = b - 1 ∧ HSm 8000 ms ∧ 1 ≤ p ∧ Sm 7000 p ∧ P (.lst (mpD b ms (sd b bs p))) t
def sp__law_at_2 : PSp := fun ds t P => ∃ b bs p, ds = [.int b, .lst (bs.map .int), .int p] ∧ Hou b bs ∧ 1 ≤ p ∧ Sm 7000 p ∧ P (.int (sd b bs p)) t
theorem len__law_dot (as : List D) (t : Ts) (P : D → Ts → Prop) (h : sp__law_dot as t P) : as.length = 2 := by first | (obtain ⟨_, rfl, _⟩ := h; rfl) | (obtain ⟨_, _, rfl, _⟩ := h; rfl) | (obtain ⟨_, _, _, rfl, _⟩ := h; rfl) | (obtain ⟨_, _, _, _, rfl, _⟩ := h; rfl) | (obtain ⟨_, _, _, _, _, rfl, _⟩ := h; rfl) | (obtain ⟨_, _, _, _, _, _, rfl, _⟩ := h; rfl) | (obtain ⟨_, _, _, _, _, _, _, rfl, _⟩ := h; rfl) | (obtain ⟨_, _, _, _, _, _, _, _, rfl, _⟩ := h; rfl) | (obtain ⟨_, rfl | rfl, _⟩ := h <;> rfl) | (obtain ⟨_, _, rfl | rfl, _⟩ := h <;> rfl) | (obtain ⟨_, _, _, rfl | rfl, _⟩ := h <;> rfl) | (obtain ⟨_, _, _, _, rfl | rfl, _⟩ := h <;> rfl) | (obtain ⟨_, _, _, _, _, rfl | rfl, _⟩ := h <;> rfl) | (obtain ⟨_, _, _, _, _, _, rfl | rfl, _⟩ := h <;> rfl) | (obtain ⟨_, _, _, _, _, _, _, rfl | rfl, _⟩ := h <;> rfl) | (obtain ⟨_, _, _, _, _, _, _, _, rfl | rfl, _⟩ := h <;> rfl)
theorem len__law_shares (as : List D) (t : Ts) (P : D → Ts → Prop) (h : sp__law_shares as t P) : as.length = 2 := by first | (obtain ⟨_, rfl, _⟩ := h; rfl) | (obtain ⟨_, _, rfl, _⟩ := h; rfl) | (obtain ⟨_, _, _, rfl, _⟩ := h; rfl) | (obtain ⟨_, _, _, _, rfl, _⟩ := h; rfl) | (obtain ⟨_, _, _, _, _, rfl, _⟩ := h; rfl) | (obtain ⟨_, _, _, _, _, _, rfl, _⟩ := h; rfl) | (obtain ⟨_, _, _, _, _, _, _, rfl, _⟩ := h; rfl) | (obtain ⟨_, _, _, _, _, _, _, _, rfl, _⟩ := h; rfl) | (obtain ⟨_, rfl | rfl, _⟩ := h <;> rfl) | (obtain ⟨_, _, rfl | rfl, _⟩ := h <;> rfl) | (obtain ⟨_, _, _, rfl | rfl, _⟩ := h <;> rfl) | (obtain ⟨_, _, _, _, rfl | rfl, _⟩ := h <;> rfl) | (obtain ⟨_, _, _, _, _, rfl | rfl, _⟩ := h <;> rfl) | (obtain ⟨_, _, _, _, _, _, rfl | rfl, _⟩ := h <;> rfl) | (obtain ⟨_, _, _, _, _, _, _, rfl | rfl, _⟩ := h <;> rfl) | (obtain ⟨_, _, _, _, _, _, _, _, rfl | rfl, _⟩ := h <;> rfl)
theorem len__law_mark (as : List D) (t : Ts) (P : D → Ts → Prop) (h : sp__law_mark as t P) : as.length = 3 := by first | (obtain ⟨_, rfl, _⟩ := h; rfl) | (obtain ⟨_, _, rfl, _⟩ := h; rfl) | (obtain ⟨_, _, _, rfl, _⟩ := h; rfl) | (obtain ⟨_, _, _, _, rfl, _⟩ := h; rfl) | (obtain ⟨_, _, _, _, _, rfl, _⟩ := h; rfl) | (obtain ⟨_, _, _, _, _, _, rfl, _⟩ := h; rfl) | (obtain ⟨_, _, _, _, _, _, _, rfl, _⟩ := h; rfl) | (obtain ⟨_, _, _, _, _, _, _, _, rfl, _⟩ := h; rfl) | (obtain ⟨_, rfl | rfl, _⟩ := h <;> rfl) | (obtain ⟨_, _, rfl | rfl, _⟩ := h <;> rfl) | (obtain ⟨_, _, _, rfl | rfl, _⟩ := h <;> rfl) | (obtain ⟨_, _, _, _, rfl | rfl, _⟩ := h <;> rfl) | (obtain ⟨_, _, _, _, _, rfl | rfl, _⟩ := h <;> rfl) | (obtain ⟨_, _, _, _, _, _, rfl | rfl, _⟩ := h <;> rfl) | (obtain ⟨_, _, _, _, _, _, _, rfl | rfl, _⟩ := h <;> rfl) | (obtain ⟨_, _, _, _, _, _, _, _, rfl | rfl, _⟩ := h <;> rfl)
theorem len__law_paper_2 (as : List D) (t : Ts) (P : D → Ts → Prop) (h : sp__law_paper_2 as t P) : as.length = 3 := by first | (obtain ⟨_, rfl, _⟩ := h; rfl) | (obtain ⟨_, _, rfl, _⟩ := h; rfl) | (obtain ⟨_, _, _, rfl, _⟩ := h; rfl) | (obtain ⟨_, _, _, _, rfl, _⟩ := h; rfl) | (obtain ⟨_, _, _, _, _, rfl, _⟩ := h; rfl) | (obtain ⟨_, _, _, _, _, _, rfl, _⟩ := h; rfl) | (obtain ⟨_, _, _, _, _, _, _, rfl, _⟩ := h; rfl) | (obtain ⟨_, _, _, _, _, _, _, _, rfl, _⟩ := h; rfl) | (obtain ⟨_, rfl | rfl, _⟩ := h <;> rfl) | (obtain ⟨_, _, rfl | rfl, _⟩ := h <;> rfl) | (obtain ⟨_, _, _, rfl | rfl, _⟩ := h <;> rfl) | (obtain ⟨_, _, _, _, rfl | rfl, _⟩ := h <;> rfl) | (obtain ⟨_, _, _, _, _, rfl | rfl, _⟩ := h <;> rfl) | (obtain ⟨_, _, _, _, _, _, rfl | rfl, _⟩ := h <;> rfl) | (obtain ⟨_, _, _, _, _, _, _, rfl | rfl, _⟩ := h <;> rfl) | (obtain ⟨_, _, _, _, _, _, _, _, rfl | rfl, _⟩ := h <;> rfl)
theorem len_mark_paper_2 (W : Cl) (as : List D) (t : Ts) (P : D → Ts → Prop) (h : sp_mark_paper_2 W as t P) : as.length = 3 := by first | (obtain ⟨_, rfl, _⟩ := h; rfl) | (obtain ⟨_, _, rfl, _⟩ := h; rfl) | (obtain ⟨_, _, _, rfl, _⟩ := h; rfl) | (obtain ⟨_, _, _, _, rfl, _⟩ := h; rfl) | (obtain ⟨_, _, _, _, _, rfl, _⟩ := h; rfl) | (obtain ⟨_, _, _, _, _, _, rfl, _⟩ := h; rfl) | (obtain ⟨_, _, _, _, _, _, _, rfl, _⟩ := h; rfl) | (obtain ⟨_, _, _, _, _, _, _, _, rfl, _⟩ := h; rfl) | (obtain ⟨_, rfl | rfl, _⟩ := h <;> rfl) | (obtain ⟨_, _, rfl | rfl, _⟩ := h <;> rfl) | (obtain ⟨_, _, _, rfl | rfl, _⟩ := h <;> rfl) | (obtain ⟨_, _, _, _, rfl | rfl, _⟩ := h <;> rfl) | (obtain ⟨_, _, _, _, _, rfl | rfl, _⟩ := h <;> rfl) | (obtain ⟨_, _, _, _, _, _, rfl | rfl, _⟩ := h <;> rfl) | (obtain ⟨_, _, _, _, _, _, _, rfl | rfl, _⟩ := h <;> rfl) | (obtain ⟨_, _, _, _, _, _, _, _, rfl | rfl, _⟩ := h <;> rfl)
theorem len__law_at_2 (as : List D) (t : Ts) (P : D → Ts → Prop) (h : sp__law_at_2 as t P) : as.length = 3 := by first | (obtain ⟨_, rfl, _⟩ := h; rfl) | (obtain ⟨_, _, rfl, _⟩ := h; rfl) | (obtain ⟨_, _, _, rfl, _⟩ := h; rfl) | (obtain ⟨_, _, _, _, rfl, _⟩ := h; rfl) | (obtain ⟨_, _, _, _, _, rfl, _⟩ := h; rfl) | (obtain ⟨_, _, _, _, _, _, rfl, _⟩ := h; rfl) | (obtain ⟨_, _, _, _, _, _, _, rfl, _⟩ := h; rfl) | (obtain ⟨_, _, _, _, _, _, _, _, rfl, _⟩ := h; rfl) | (obtain ⟨_, rfl | rfl, _⟩ := h <;> rfl) | (obtain ⟨_, _, rfl | rfl, _⟩ := h <;> rfl) | (obtain ⟨_, _, _, rfl | rfl, _⟩ := h <;> rfl) | (obtain ⟨_, _, _, _, rfl | rfl, _⟩ := h <;> rfl) | (obtain ⟨_, _, _, _, _, rfl | rfl, _⟩ := h <;> rfl) | (obtain ⟨_, _, _, _, _, _, rfl | rfl, _⟩ := h <;> rfl) | (obtain ⟨_, _, _, _, _, _, _, rfl | rfl, _⟩ := h <;> rfl) | (obtain ⟨_, _, _, _, _, _, _, _, rfl | rfl, _⟩ := h <;> rfl)
def d__law_dot : DS := (dSeq (dRet (dCB bSum (dCons (dLc [2, 3] (iZipD (dVar 0) (dVar 1)) (gTup 2 (gCons (gName 2) (gCons (gName 3) gNil))) dYes (dOp oMul (dVar 2) (dVar 3))) dNil))) dNext)
def d__law_shares : DS := (dSeq (dAsg (dC (.int 1)) (gName 2)) (dSeq (dWhile (dB (dOp oLe (dOp oMul (dVar 2) (dVar 0)) (dVar 1))) (dSeq (dAsg (dOp oMul (dVar 2) (dVar 0)) (gName 2)) dNext)) (dSeq (dParM [(3, false), (4, false), (5, true)] (dCons (dOp oDiv (dVar 1) (dVar 2)) (dCons (dOp oMod (dVar 1) (dVar 2)) (dCons (dOp oRep (dLst (dCons (dC (.int 0)) dNil)) (dOp oSub (dVar 0) (dC (.int 1)))) dNil)))) (dSeq (dSet 5 (dOp oSub (dVar 3) (dC (.int 1))) (dOp oSub (dVar 2) (dVar 4))) (dSeq (dIf (dB (dOp oLt (dVar 3) (dOp oSub (dVar 0) (dC (.int 1))))) (dSeq (dSet 5 (dVar 3) (dVar 4)) dNext) (dSeq (dSet 5 (dC (.int 0)) (dOp oAdd (dOp oIx (dView 5) (dC (.int 0))) (dOp oMul (dVar 0) (dVar 4)))) dNext)) (dSeq (dFrz 5) (dSeq (dRet (dVar 5)) dNext)))))))
def d__law_mark : DS := (dSeq (dRet (dCall sp__law_dot [] (dCons (dVar 1) (dCons (dCall sp__law_shares [] (dCons (dVar 0) (dCons (dVar 2) dNil))) dNil)))) dNext)
def d__law_paper_2 : DS := (dSeq (dAsgN 3 (dLst (dCons (dTup (dCons (dVar 2) (dCons (dCall sp__law_mark [] (dCons (dVar 0) (dCons (dVar 1) (dCons (dVar 2) dNil)))) (dCons (dCall sp__law_mark [] (dCons (dVar 0) (dCons (dVar 1) (dCons (dOp oAdd (dVar 2) (dC (.int 1))) dNil)))) dNil)))) dNil))) (dSeq (dWhile (dB (dOp oGe (dVar 2) (dVar 0))) (dSeq (dAsg (dOp oDiv (dVar 2) (dVar 0)) (gName 2)) (dSeq (dApp 3 (dTup (dCons (dVar 2) (dCons (dCall sp__law_mark [] (dCons (dVar 0) (dCons (dVar 1) (dCons (dVar 2) dNil)))) (dCons (dCall sp__law_mark [] (dCons (dVar 0) (dCons (dVar 1) (dCons (dOp oAdd (dVar 2) (dC (.int 1))) dNil)))) dNil))))) dNext))) (dSeq (dFrz 3) (dSeq (dRet (dVar 3)) dNext))))
def d_mark_paper_2 (W : Cl) : DS := (dSeq (dParM [(3, false), (4, false), (5, true)] (dCons (dMeth W.House "base" (sp_House_base W) [] (dVar 0) dNil) (dCons (dMeth W.House "said" (sp_House_said W) [] (dVar 0) (dCons (dVar 2) dNil)) (dCons (dLst dNil) dNil)))) (dSeq (dWhile (dB (dOp oGe (dVar 4) (dVar 3))) (dSeq (dApp 5 (dTup (dCons (dVar 4) (dCons (dCall sp_mark_by [] (dCons (dVar 3) (dCons (dVar 1) (dCons (dVar 4) dNil)))) (dCons (dCall sp_mark_by [] (dCons (dVar 3) (dCons (dVar 1) (dCons (dOp oAdd (dVar 4) (dC (.int 1))) dNil)))) dNil))))) (dSeq (dAug 4 oDiv (dVar 3)) dNext))) (dSeq (dFrz 5) (dSeq (dRet (dOp oCat (dView 5) (dLst (dCons (dTup (dCons (dVar 4) (dCons (dCall sp_mark_by [] (dCons (dVar 3) (dCons (dVar 1) (dCons (dVar 4) dNil)))) (dCons (dCall sp_mark_by [] (dCons (dVar 3) (dCons (dVar 1) (dCons (dOp oAdd (dVar 4) (dC (.int 1))) dNil)))) dNil)))) dNil)))) dNext))))
def d__law_at_2 : DS := (dSeq (dPar 3 4 (dCons (dC (.int 0)) (dCons (dVar 2) dNil))) (dSeq (dWhile (dB (dOp oGt (dOp oSub (dVar 4) (dVar 3)) (dC (.int 1)))) (dSeq (dAsg (dOp oDiv (dOp oAdd (dVar 3) (dVar 4)) (dC (.int 2))) (gName 5)) (dSeq (dIf (dB (dOp oLt (dCall sp__law_last_3 [] (dCons (dVar 0) (dCons (dVar 1) (dCons (dVar 5) dNil)))) (dVar 2))) (dSeq (dAsg (dVar 5) (gName 3)) dNext) (dSeq (dAsg (dVar 5) (gName 4)) dNext)) dNext))) (dSeq (dRet (dVar 4)) dNext)))
theorem dot_range : ∀ xs ys : List Int, xs.length = ys.length → ((List.range xs.length).map fun i => xs.getD i 0 * ys.getD i 0).sum = dot xs ys := fun xs ys h => by
  unfold dot
  congr 1
  refine List.ext_getElem (by simp [h]) fun i h1 h2 => ?_
  simp only [List.length_map, List.length_range] at h1
  simp [List.getD_eq_getElem?_getD, List.getElem?_eq_getElem h1, List.getElem?_eq_getElem (show i < ys.length by omega)]
theorem d__law_dot_ok (as : List D) (t : Ts) (P : D → Ts → Prop) (h : sp__law_dot as t P) : d__law_dot (endsOf P) (start0 ["_law_one", "_law_other", "_law_left", "_law_right"] as) t := by
  obtain ⟨xs, ys, rfl, hl, hl2, hx, hy, k⟩ := h
  conv => whnf
  refine lc_idx (fun i => .int (xs.getD i 0 * ys.getD i 0)) (by rw [zipD_len, List.length_map, List.length_map]; unfold zLen; omega) (fun i x hx' Qy q => ?_) ?_
  · have hi := (List.getElem?_eq_some_iff.mp hx').1
    rw [zipD_len, List.length_map, List.length_map] at hi
    have e1 : xs[i]? = some (xs.getD i 0) := by rw [List.getD_eq_getElem?_getD, List.getElem?_eq_getElem (show i < xs.length by omega)]; rfl
    have e2 : ys[i]? = some (ys.getD i 0) := by rw [List.getD_eq_getElem?_getD, List.getElem?_eq_getElem (show i < ys.length by omega)]; rfl
    rw [zipD_get, List.getElem?_map, List.getElem?_map, e1, e2] at hx'
    obtain rfl := (Option.some.inj hx').symm
    refine ⟨rfl, ?_⟩
    conv => whnf
    refine ⟨rfl, ?_⟩
    conv => whnf
    refine ⟨.w (a := 700) (b := 700) (hx.at i) (hy.at i) (by decide) (by decide) (by decide), ?_⟩
    exact q
  rw [zipD_len, List.length_map, List.length_map, ← hl, Nat.min_self]
  have e : (List.range xs.length).map (fun i => D.int (xs.getD i 0 * ys.getD i 0)) = ((List.range xs.length).map fun i => xs.getD i 0 * ys.getD i 0).map D.int := by rw [List.map_map]; rfl
  rw [e]
  refine ⟨_, ints_map _, ?_⟩
  rw [dot_range xs ys hl]
  exact k
theorem d__law_shares_ok (as : List D) (t : Ts) (P : D → Ts → Prop) (h : sp__law_shares as t P) : d__law_shares (endsOf P) (start0 ["_law_base", "_law_number", "_law_power", "_law_sign", "_law_rest", "_law_found"] as) t := by
  obtain ⟨b, n, rfl, h2, h30, h1, hs, k⟩ := h
  conv => whnf
  refine ⟨fun e m => t = m ∧ ∃ p : Int, 1 ≤ p ∧ p ≤ n ∧ pw b n = p * pw b (n / p) ∧ e = [.val (.int b), .val (.int n), .val (.int p), .no, .no, .no], fun e _ => match e with | [_, _, .val (.int p), _, _, _] => (n - p).toNat | _ => 0, ⟨rfl, 1, by decide, h1, by simp, rfl⟩, fun e m hI => ?_⟩
  obtain ⟨rfl, p, p1, pn, hp, rfl⟩ := hI
  conv => whnf
  refine ⟨.r (by omega) (by omega), ?_⟩
  conv => whnf
  have hnp : 1 ≤ n / p := by
    have := Int.ediv_le_ediv (show 0 < p by omega) pn
    rw [Int.ediv_self (by omega)] at this
    exact this
  have hlow := Int.mul_le_mul_of_nonneg_left h2 (show 0 ≤ p by omega)
  refine Br.mk (fun hx => ?_) (fun hx => ?_)
  · have hx := of_decide_eq_true hx
    conv => whnf
    refine ⟨.r (by omega) (by omega), ?_⟩
    conv => whnf
    refine ⟨⟨rfl, p * b, by omega, hx, ?_, rfl⟩, ?_⟩
    · rw [hp]
      have hb : b ≤ n / p := (Int.le_ediv_iff_mul_le (by omega)).mpr (by rw [Int.mul_comm]; exact hx)
      rw [pw_ge h2 hb, Int.ediv_ediv_of_nonneg (by omega), Int.mul_assoc]
    · show (n - p * b).toNat < (n - p).toNat
      omega
  · have hx := of_decide_eq_false hx
    have hb : n / p < b := Int.ediv_lt_of_lt_mul (by omega) (by rw [Int.mul_comm]; omega)
    rw [pw_lt hb, Int.mul_one] at hp
    subst hp
    obtain ⟨s1, s2⟩ := sg_in h2 h1
    obtain ⟨r0, r1⟩ := rs_in h2 h1
    have h0 := pw_pos h2 h1
    have hsp : Sm 8000 (pw b n) := (Sm.of (by omega) pn hs).mono (by decide)
    conv => whnf
    refine ⟨.w (by omega) hsp (by decide), ?_⟩
    conv => whnf
    refine ⟨by omega, ?_⟩
    conv => whnf
    refine ⟨⟨by omega, by omega, by show 1 * (b - 1).toNat ≤ zLen; unfold zLen; omega⟩, ?_⟩
    conv => whnf
    rw [rep_ints]
    refine ⟨_, ixN_nn (by omega) (by rw [List.length_map, List.length_replicate]; omega), ?_⟩
    rw [← List.map_set]
    have e0 : (List.replicate (b - 1).toNat (0 : Int)).set (n / pw b n - 1).toNat (pw b n - n % pw b n) = sh0 b n := rfl
    rw [e0]
    conv => whnf
    refine Br.mk (fun hx => ?_) (fun hx => ?_)
    · have hx := of_decide_eq_true hx
      conv => whnf
      refine ⟨_, ixN_nn (by omega) (by rw [List.length_map, sh0_len]; omega), ?_⟩
      rw [← List.map_set, show (sh0 b n).set (n / pw b n).toNat (n % pw b n) = sh b n by unfold sh; rw [if_pos hx]]
      exact k
    · have hx := of_decide_eq_false hx
      conv => whnf
      refine ⟨_, atI_ints (by decide) (by rw [sh0_len]; omega), ?_⟩
      conv => whnf
      refine ⟨.l (by omega) (by omega), ?_⟩
      conv => whnf
      refine ⟨_, ixN_nn (by decide) (by rw [List.length_map, sh0_len]; omega), ?_⟩
      have e5 : (sh0 b n).set 0 ((sh0 b n).getD 0 0 + b * (n % pw b n)) = sh b n := by unfold sh; rw [if_neg hx]
      rw [← List.map_set]
      have e6 : ((sh0 b n).set (Int.toNat 0) ((sh0 b n).getD (Int.toNat 0) 0 + b * (n % pw b n))) = sh b n := e5
      rw [e6]
      exact k
theorem sh_hsm {b n : Int} (h2 : 2 ≤ b) (h30 : b ≤ 30) (h1 : 1 ≤ n) (hs : Sm 690 n) : HSm 700 (sh b n) := fun x hx => by
  have h0 := sh_nn h2 h1 x hx
  obtain ⟨r0, r1⟩ := rs_in h2 h1
  have p1 := pw_pos h2 h1
  have pn := pw_le h2 h1
  have h3 : x ≤ 32 * n := by
    have hz : ∀ y ∈ sh0 b n, y ≤ n := fun y hy => by
      unfold sh0 at hy
      rcases List.mem_or_eq_of_mem_set hy with h | h
      · have := (List.mem_replicate.mp h).2
        omega
      · omega
    have hm : b * (n % pw b n) ≤ 30 * n := by
      have a1 := Int.mul_le_mul_of_nonneg_right h30 r0
      have a2 := Int.mul_le_mul_of_nonneg_left (show n % pw b n ≤ n by omega) (show (0 : Int) ≤ 30 by decide)
      omega
    unfold sh at hx
    split at hx
    · rcases List.mem_or_eq_of_mem_set hx with h | h
      · have := hz x h
        omega
      · omega
    · rcases List.mem_or_eq_of_mem_set hx with h | h
      · have := hz x h
        omega
      · have hg : (sh0 b n).getD 0 0 ≤ n := by
          rw [List.getD_eq_getElem?_getD]
          cases q : (sh0 b n)[0]? with
          | none => show (0 : Int) ≤ n; omega
          | some y => exact hz y (List.mem_of_getElem? q)
        omega
  have e : Sm 700 (32 * n) := (Sm.mul (a := 6) (show Sm 6 32 by unfold Sm; decide) hs).mono (by decide)
  exact Sm.of h0 h3 e
theorem d__law_mark_ok (as : List D) (t : Ts) (P : D → Ts → Prop) (h : sp__law_mark as t P) : d__law_mark (endsOf P) (start0 ["_law_base", "_law_marks", "_law_number"] as) t := by
  obtain ⟨b, n, ms, rfl, hl, h2, h30, hm, h1, hs, k⟩ := h
  conv => whnf
  refine ⟨b, n, rfl, h2, h30, h1, hs, ?_⟩
  conv => whnf
  refine ⟨ms, sh b n, rfl, by rw [sh_len]; omega, by omega, hm, sh_hsm h2 h30 h1 hs, ?_⟩
  have e : dot ms (sh b n) = dot (sh b n) ms := by
    unfold dot
    rw [List.zipWith_comm_of_comm fun x y => Int.mul_comm x y]
  rw [e, sh_dot h2 h1 hl]
  exact k
theorem ediv_facts {b n : Int} (h2 : 2 ≤ b) (h : b ≤ n) : 1 ≤ n / b ∧ n / b < n := by
  refine ⟨(Int.le_ediv_iff_mul_le (by omega)).mpr (by omega), Int.ediv_lt_of_lt_mul (by omega) ?_⟩
  have := Int.mul_le_mul_of_nonneg_left h2 (show 0 ≤ n by omega)
  omega
theorem mp_ge {b n : Int} {ms : List Int} (h2 : 2 ≤ b) (h : b ≤ n) : mpD b ms n = mrD b ms n :: mpD b ms (n / b) := by
  unfold mpD
  rw [hdN_ge h2 h]
  rfl
theorem mp_lt {b n : Int} {ms : List Int} (h : n < b) : mpD b ms n = [mrD b ms n] := by
  unfold mpD
  rw [hdN_lt h]
  rfl
theorem mp_len {b n : Int} {ms : List Int} {c : Nat} (h2 : 2 ≤ b) (h1 : 1 ≤ n) (hs : Sm c n) : (mpD b ms n).length ≤ c + 1 := by
  unfold mpD
  rw [List.length_map]
  exact hdN_sm h2 h1 hs
theorem sm_next {c : Nat} {n : Int} (h0 : 0 ≤ n) (hs : Sm c n) : Sm (c + 1) (n + 1) := by
  unfold Sm at *
  have := Nat.pow_succ 2 c
  have := Nat.two_pow_pos c
  omega
theorem d__law_paper_2_ok (as : List D) (t : Ts) (P : D → Ts → Prop) (h : sp__law_paper_2 as t P) : d__law_paper_2 (endsOf P) (start0 ["_law_base", "_law_marks", "_law_number", "_law_found"] as) t := by
  obtain ⟨b, n0, ms, rfl, hl, h2, h30, hm, h01, hs, k⟩ := h
  have mpl := mp_len (ms := ms) h2 h01 hs
  conv => whnf
  refine ⟨b, n0, ms, rfl, hl, h2, h30, hm, h01, hs.mono (by decide), ?_⟩
  conv => whnf
  refine ⟨b, n0 + 1, ms, rfl, hl, h2, h30, hm, by omega, (sm_next (by omega) hs).mono (by decide), ?_⟩
  conv => whnf
  refine ⟨fun e m => t = m ∧ ∃ (n : Int) (F : List D), 1 ≤ n ∧ n ≤ n0 ∧ mpD b ms n0 = F ++ (mpD b ms n).tail ∧ F.length ≤ (mpD b ms n0).length ∧ e = [.val (.int b), .val (.lst (ms.map .int)), .val (.int n), .own (.lst F)], fun e _ => match e with
    | [_, _, .val (.int n), _] => n.toNat
    | _ => 0, ⟨rfl, n0, _, h01, Int.le_refl _, ?_, ?_, rfl⟩, fun e m hI => ?_⟩
  · obtain ⟨r, hr⟩ := hdN_head (b := b) (n := n0)
    unfold mpD
    rw [hr]
    rfl
  · obtain ⟨r, hr⟩ := hdN_head (b := b) (n := n0)
    unfold mpD
    rw [hr]
    simp
  · obtain ⟨rfl, n, F, n1, nn, hF, hFl, rfl⟩ := hI
    conv => whnf
    refine Br.mk (fun hc => ?_) (fun hc => ?_)
    · have hc := of_decide_eq_true hc
      obtain ⟨e1, e2⟩ := ediv_facts h2 hc
      have ss : Sm 680 (n / b) := Sm.of (by omega) (show n / b ≤ n0 by omega) hs
      conv => whnf
      refine ⟨.s (by omega) (by omega), ?_⟩
      conv => whnf
      refine ⟨b, n / b, ms, rfl, hl, h2, h30, hm, e1, ss.mono (by decide), ?_⟩
      conv => whnf
      refine ⟨b, n / b + 1, ms, rfl, hl, h2, h30, hm, by omega, (sm_next (by omega) ss).mono (by decide), ?_⟩
      conv => whnf
      rw [mp_ge h2 hc] at hF
      have hF2 : mpD b ms n0 = (F ++ [mrD b ms (n / b)]) ++ (mpD b ms (n / b)).tail := by
        rw [hF]
        obtain ⟨r, hr⟩ := hdN_head (b := b) (n := n / b)
        unfold mpD
        rw [hr]
        simp
      refine ⟨by unfold zLen; omega, ⟨rfl, n / b, _, e1, by omega, hF2, ?_, rfl⟩, ?_⟩
      · rw [hF2]
        simp only [List.length_append, List.length_cons, List.length_nil]
        omega
      · show (n / b).toNat < n.toNat
        omega
    · have hc := of_decide_eq_false hc
      rw [mp_lt (show n < b by omega)] at hF
      have hF : mpD b ms n0 = F := by rw [hF]; simp
      rw [hF] at k
      conv => whnf
      exact k
theorem d_mark_paper_2_ok (W : Cl) (as : List D) (t : Ts) (P : D → Ts → Prop) (h : sp_mark_paper_2 W as t P) : d_mark_paper_2 W (endsN P) (start0 ["house", "marks", "place", "base", "number", "found"] as) t := by
  obtain ⟨b, bs, p, d, ms, rfl, hh, hr, hl, hm, p1, ps, k⟩ := h
  have h2 := hh.b2
  have h30 := hh.b30
  have n01 := sd_pos hh p
  have ns := sd_sm hh p1 ps
  have mpl := mp_len (ms := ms) h2 n01 ns
  conv => whnf
  refine ⟨rfl, ?_⟩
  conv => whnf
  refine ⟨rfl, ?_⟩
  conv => whnf
  refine ⟨b, bs, rfl, ?_⟩
  conv => whnf
  refine ⟨rfl, ?_⟩
  conv => whnf
  refine ⟨rfl, ?_⟩
  conv => whnf
  refine ⟨b, bs, p, rfl, hh, p1, ps.mono (by decide), fun m0 hm0 => ?_⟩
  obtain rfl := sd_eq hh hm0
  generalize sd b bs p = n0 at *
  conv => whnf
  refine ⟨fun e m => t = m ∧ ∃ (n : Int) (F : List D), 1 ≤ n ∧ n ≤ n0 ∧ mpD b ms n0 = F ++ mpD b ms n ∧ e = [.val (hD W b bs), .val d, .val (.int p), .val (.int b), .val (.int n), .own (.lst F)], fun e _ => match e with
    | [_, _, _, _, .val (.int n), _] => n.toNat
    | _ => 0, ⟨rfl, n0, [], n01, Int.le_refl _, rfl, rfl⟩, fun e m hI => ?_⟩
  obtain ⟨rfl, n, F, n1, nn, hF, rfl⟩ := hI
  have ss : Sm 7000 n := Sm.of (by omega) nn ns
  have hFl : F.length ≤ 7001 := by
    have := congrArg List.length hF
    simp only [List.length_append] at this
    omega
  conv => whnf
  refine Br.mk (fun hc => ?_) (fun hc => ?_)
  · have hc := of_decide_eq_true hc
    obtain ⟨e1, e2⟩ := ediv_facts h2 hc
    conv => whnf
    refine ⟨b, n, d, ms, rfl, hr, hl, h2, h30, hm, n1, ss.mono (by decide), ?_⟩
    conv => whnf
    refine ⟨b, n + 1, d, ms, rfl, hr, hl, h2, h30, hm, by omega, (sm_next (by omega) ss).mono (by decide), ?_⟩
    conv => whnf
    refine ⟨by unfold zLen; omega, ?_⟩
    conv => whnf
    refine ⟨.s (by omega) (by omega), ?_⟩
    conv => whnf
    refine ⟨⟨rfl, n / b, F ++ [mrD b ms n], e1, by omega, ?_, rfl⟩, ?_⟩
    · rw [hF, mp_ge h2 hc]
      simp
    · show (n / b).toNat < n.toNat
      omega
  · have hc := of_decide_eq_false hc
    rw [mp_lt (show n < b by omega)] at hF
    conv => whnf
    refine ⟨b, n, d, ms, rfl, hr, hl, h2, h30, hm, n1, ss.mono (by decide), ?_⟩
    conv => whnf
    refine ⟨b, n + 1, d, ms, rfl, hr, hl, h2, h30, hm, by omega, (sm_next (by omega) ss).mono (by decide), ?_⟩
    conv => whnf
    refine ⟨by show F.length + 1 ≤ zLen; unfold zLen; omega, ?_⟩
    conv => whnf
    rw [hF] at k
    exact k
theorem d__law_at_2_ok (as : List D) (t : Ts) (P : D → Ts → Prop) (h : sp__law_at_2 as t P) : d__law_at_2 (endsOf P) (start0 ["_law_base", "_law_begun_here", "_law_spot", "_law_low", "_law_high", "_law_middle"] as) t := by
  obtain ⟨b, bs, p, rfl, hh, p1, ps, k⟩ := h
  have L0 : Lp b bs 0 = 0 := Lp_le0 (Int.le_refl _)
  conv => whnf
  refine ⟨fun e m => t = m ∧ ∃ (lo hi : Int) (s5 : Sl), 0 ≤ lo ∧ lo < hi ∧ hi ≤ p ∧ Lp b bs lo < p ∧ p ≤ Lp b bs hi ∧ e = [.val (.int b), .val (.lst (bs.map .int)), .val (.int p), .val (.int lo), .val (.int hi), s5], fun e _ => match e with
    | [_, _, _, .val (.int lo), .val (.int hi), _] => (hi - lo).toNat
    | _ => 0, ⟨rfl, 0, p, _, Int.le_refl _, by omega, Int.le_refl _, by omega, Lp_ge_self hh (by omega), rfl⟩, fun e m hI => ?_⟩
  obtain ⟨rfl, lo, hi, s5, l0, lh, hp, h1, h2, rfl⟩ := hI
  conv => whnf
  refine Br.mk (fun hc => ?_) (fun hc => ?_)
  · have hc := of_decide_eq_true hc
    conv => whnf
    refine ⟨.s (by omega) (by omega), ?_⟩
    conv => whnf
    have m1 : lo < (lo + hi) / 2 ∧ (lo + hi) / 2 < hi := by omega
    refine ⟨b, bs, _, rfl, hh, by omega, (Sm.of (by omega) (show (lo + hi) / 2 ≤ p by omega) ps).mono (by decide), ?_⟩
    conv => whnf
    refine Br.mk (fun hx => ?_) (fun hx => ?_)
    · have hx := of_decide_eq_true hx
      conv => whnf
      refine ⟨⟨rfl, _, hi, _, by omega, m1.2, hp, hx, h2, rfl⟩, ?_⟩
      show (hi - (lo + hi) / 2).toNat < (hi - lo).toNat
      omega
    · have hx := of_decide_eq_false hx
      conv => whnf
      refine ⟨⟨rfl, lo, _, _, l0, m1.1, by omega, h1, by omega, rfl⟩, ?_⟩
      show ((lo + hi) / 2 - lo).toNat < (hi - lo).toNat
      omega
  · have hc := of_decide_eq_false hc
    have e : hi = lo + 1 := by omega
    have : sd b bs p = hi := sd_eq hh ⟨by omega, by rw [e, show lo + 1 - 1 = lo by omega]; exact h1, h2⟩
    rw [this] at k
    conv => whnf
    exact k
end Q
/-! MSay -/
namespace Q
open PySem
/-! ### sayings -/
structure Sy where
  w : Bool
  p : Int
  n : Int
def Lis (d : D) (l : List D) : Prop := d = .lst l ∨ d = .tup l
end Q
/-! M_k38b -/
namespace Q
open PySem
/-! ### any thing as a paper of marks -/
structure M3 where
  n : Int
  m : Int
  f : Int
def m3D (r : M3) : D := .tup [.int r.n, .int r.m, .int r.f]
def m30 : M3 := ⟨0, 0, 0⟩
theorem m3_inj {r s : M3} (h : m3D r = m3D s) : r = s := by
  obtain ⟨a, b, c⟩ := r
  obtain ⟨a', b', c'⟩ := s
  simp only [m3D, D.tup.injEq, List.cons.injEq, D.int.injEq, and_true] at h
  obtain ⟨rfl, rfl, rfl⟩ := h
  rfl
def frP (b : Int) (r s : M3) : Prop := s.n = r.n / b ∧ r.m = (b - r.n % b) * s.m + r.n % b * s.f ∧ r.f = (b - r.n % b - 1) * s.m + (r.n % b + 1) * s.f
def laP (b : Int) (ms : List Int) (r : M3) : Prop := (0 < r.n ∧ r.n < b) ∧ r.m = ms.getD (r.n - 1).toNat 0 ∧ r.f = mF b ms r.n
def OkM (b : Int) (ms : List Int) : List M3 → Prop
  | [] => False
  | r :: L => 1 ≤ r.n ∧ (r :: L).map m3D = mpD b ms r.n
theorem Mk_nx1 {b : Int} (h2 : 2 ≤ b) {ms : List Int} {n : Int} (h1 : 1 ≤ n) (h : n < b) : Mk b ms (n + 1) = mF b ms n := by
  rw [Mk_next h2 ms h1, pw_lt h]
  simp
theorem ok_one {b : Int} (h2 : 2 ≤ b) {ms : List Int} {r : M3} : OkM b ms [r] ↔ laP b ms r := by
  obtain ⟨n, m, f⟩ := r
  constructor
  · rintro ⟨h1, h⟩
    have h1 : 1 ≤ n := h1
    have hn : n < b := by
      by_cases z : n < b
      · exact z
      · have h : [m3D ⟨n, m, f⟩] = mpD b ms n := h
        rw [mp_ge h2 (by omega)] at h
        obtain ⟨q, hq⟩ := hdN_head (b := b) (n := n / b)
        have := congrArg List.length h
        unfold mpD at this
        rw [hq] at this
        simp at this
    have h : [m3D ⟨n, m, f⟩] = mpD b ms n := h
    rw [mp_lt hn] at h
    have e := m3_inj (s := ⟨n, Mk b ms n, Mk b ms (n + 1)⟩) (List.cons.inj h).1
    injection e with _ e1 e2
    exact ⟨⟨by show 0 < n; omega, hn⟩, by show m = _; rw [e1, Mk_one h2 ms h1 hn], by show f = _; rw [e2, Mk_nx1 h2 h1 hn]⟩
  · rintro ⟨⟨a1, a2⟩, a3, a4⟩
    have a1 : 0 < n := a1
    have a2 : n < b := a2
    have a3 : m = ms.getD (n - 1).toNat 0 := a3
    have a4 : f = mF b ms n := a4
    refine ⟨by show 1 ≤ n; omega, ?_⟩
    show [m3D ⟨n, m, f⟩] = mpD b ms n
    rw [mp_lt a2]
    unfold mrD
    rw [Mk_one h2 ms (by omega) a2, Mk_nx1 h2 (by omega) a2, a3, a4]
    rfl
theorem fr_eq {b : Int} (h2 : 2 ≤ b) {ms : List Int} {n : Int} (h : b ≤ n) : Mk b ms n = (b - n % b) * Mk b ms (n / b) + n % b * Mk b ms (n / b + 1) ∧ Mk b ms (n + 1) = (b - n % b - 1) * Mk b ms (n / b) + (n % b + 1) * Mk b ms (n / b + 1) := by
  obtain ⟨e1, _⟩ := ediv_facts h2 h
  have r0 := Int.emod_nonneg n (show b ≠ 0 by omega)
  have r1 := Int.emod_lt_of_pos n (show 0 < b by omega)
  have dn := Int.mul_ediv_add_emod n b
  constructor
  · have := Mk_head h2 ms e1 r0 r1
    rw [dn] at this
    exact this
  · by_cases z : n % b + 1 < b
    · have := Mk_head h2 ms e1 (show 0 ≤ n % b + 1 by omega) z
      rw [show b * (n / b) + (n % b + 1) = n + 1 by omega] at this
      rw [this, show b - (n % b + 1) = b - n % b - 1 by omega]
    · have := Mk_head h2 ms (show 1 ≤ n / b + 1 by omega) (Int.le_refl 0) (show 0 < b by omega)
      rw [show b * (n / b + 1) + 0 = n + 1 by rw [Int.mul_add, Int.mul_one]; omega] at this
      rw [this, show b - n % b - 1 = 0 by omega, show n % b + 1 = b by omega, Int.zero_mul, Int.zero_mul, Int.zero_add, Int.add_zero, Int.sub_zero]
theorem ok_cons {b : Int} (h2 : 2 ≤ b) {ms : List Int} {r s : M3} {L : List M3} : OkM b ms (r :: s :: L) ↔ (b ≤ r.n ∧ frP b r s) ∧ OkM b ms (s :: L) := by
  obtain ⟨n, m, f⟩ := r
  obtain ⟨n', m', f'⟩ := s
  constructor
  · rintro ⟨h1, h⟩
    have h1 : 1 ≤ n := h1
    have h : m3D ⟨n, m, f⟩ :: (M3.mk n' m' f' :: L).map m3D = mpD b ms n := h
    have hn : b ≤ n := by
      by_cases z : n < b
      · rw [mp_lt z] at h
        have := congrArg List.length h
        simp at this
      · omega
    obtain ⟨e1, _⟩ := ediv_facts h2 hn
    rw [mp_ge h2 hn] at h
    obtain ⟨ha, hb⟩ := List.cons.inj h
    have ea := m3_inj (s := ⟨n, Mk b ms n, Mk b ms (n + 1)⟩) ha
    injection ea with _ ea1 ea2
    obtain ⟨q, hq⟩ := hdN_head (b := b) (n := n / b)
    have hb0 := hb
    unfold mpD at hb
    rw [hq] at hb
    have eb := m3_inj (s := ⟨n / b, Mk b ms (n / b), Mk b ms (n / b + 1)⟩) (List.cons.inj hb).1
    injection eb with eb0 eb1 eb2
    obtain ⟨f1, f2⟩ := fr_eq h2 (ms := ms) hn
    refine ⟨⟨hn, eb0, ?_, ?_⟩, by show 1 ≤ n'; omega, ?_⟩
    · show m = (b - n % b) * m' + n % b * f'
      rw [ea1, eb1, eb2, f1]
    · show f = (b - n % b - 1) * m' + (n % b + 1) * f'
      rw [ea2, eb1, eb2, f2]
    · show (M3.mk n' m' f' :: L).map m3D = mpD b ms n'
      rw [hb0, eb0]
  · rintro ⟨⟨hn, a1, a2, a3⟩, b1, b2⟩
    have hn : b ≤ n := hn
    have a1 : n' = n / b := a1
    have a2 : m = (b - n % b) * m' + n % b * f' := a2
    have a3 : f = (b - n % b - 1) * m' + (n % b + 1) * f' := a3
    have b2 : (M3.mk n' m' f' :: L).map m3D = mpD b ms n' := b2
    obtain ⟨f1, f2⟩ := fr_eq h2 (ms := ms) hn
    obtain ⟨q, hq⟩ := hdN_head (b := b) (n := n')
    have hb := b2
    unfold mpD at hb
    rw [hq] at hb
    have eb := m3_inj (s := ⟨n', Mk b ms n', Mk b ms (n' + 1)⟩) (List.cons.inj hb).1
    injection eb with eb0 eb1 eb2
    refine ⟨by show 1 ≤ n; omega, ?_⟩
    show m3D ⟨n, m, f⟩ :: (M3.mk n' m' f' :: L).map m3D = mpD b ms n
    rw [mp_ge h2 hn, b2, a1]
    congr 1
    unfold mrD
    rw [f1, f2, a2, a3, eb1, eb2, a1]
    rfl
def Pq (p : D) : Prop := p = .non ∨ (∃ b, p = .bl b) ∨ (∃ i, p = .int i ∧ Sm 1800 i) ∨ p = .str "0" ∨ ∃ i, p = .tup [.int i] ∧ Sm 1800 i
def R3q (d : D) : Prop := ∃ r : M3, d = m3D r ∧ Sm 1800 r.n ∧ Sm 1800 r.m ∧ Sm 1800 r.f
def Rx (d : D) : Prop := Pq d ∨ (∃ ps, (d = .tup ps ∨ d = .lst ps) ∧ ps.length ≤ 4 ∧ ∀ p ∈ ps, Pq p) ∨ ∃ ps, d = .lst ps ∧ ps.length ≤ 260 ∧ ∀ p ∈ ps, R3q p
def T38 (x : D) : Prop := x = .non ∨ (∃ b, x = .bl b) ∨ (∃ i, x = .int i ∧ Sm 1800 i) ∨ (∃ s : Str, x = .str s ∧ plain (.str s) = true ∧ s.length ≤ 1570000) ∨ x = .dic [] [] ∨ ∃ l, Lis x l ∧ l.length ≤ 265 ∧ ∀ d ∈ l, Rx d
theorem Pq.tn {d : D} (h : Pq d) : tnOk d := by
  rcases h with rfl | ⟨_, rfl⟩ | ⟨_, rfl, _⟩ | rfl | ⟨_, rfl, _⟩ <;> exact ⟨_, rfl⟩
theorem Rx.tn {d : D} (h : Rx d) : tnOk d := by
  rcases h with h | ⟨ps, rfl | rfl, _⟩ | ⟨ps, rfl, _⟩
  · exact h.tn
  · exact ⟨_, rfl⟩
  · exact ⟨_, rfl⟩
  · exact ⟨_, rfl⟩
theorem T38.tn {d : D} (h : T38 d) : tnOk d := by
  rcases h with rfl | ⟨_, rfl⟩ | ⟨_, rfl, _⟩ | ⟨_, rfl, _⟩ | rfl | ⟨_, rfl | rfl, _⟩ <;> exact ⟨_, rfl⟩
def r3B : D → Bool
  | .tup [a, b, c] => isInt a && (isInt b && isInt c)
  | _ => false
theorem r3_is {d : D} (h : r3B d = true) : ∃ r : M3, d = m3D r := by
  unfold r3B at h
  split at h
  · rename_i a b c
    simp only [Bool.and_eq_true] at h
    obtain ⟨h1, h2, h3⟩ := h
    cases a with
    | int p =>
      cases b with
      | int n =>
        cases c with
        | int f => exact ⟨⟨p, n, f⟩, rfl⟩
        | _ => cases h3
      | _ => cases h2
    | _ => cases h1
  · cases h
theorem r3s_is : ∀ {l : List D}, (∀ d ∈ l, r3B d = true) → ∃ L : List M3, l = L.map m3D
  | [], _ => ⟨[], rfl⟩
  | d :: l, h => by
    obtain ⟨r, rfl⟩ := r3_is (h d (List.mem_cons_self ..))
    obtain ⟨L, rfl⟩ := r3s_is fun e he => h e (List.mem_cons_of_mem _ he)
    exact ⟨r :: L, rfl⟩
/-- what the rows' sizes are -/
theorem rx_sm {r : M3} (h : Rx (m3D r)) : Sm 1800 r.n ∧ Sm 1800 r.m ∧ Sm 1800 r.f := by
  have pq : ∀ {i : Int}, Pq (.int i) → Sm 1800 i := fun {i} h => by
    rcases h with h | ⟨_, h⟩ | ⟨_, h, hs⟩ | h | ⟨_, h, _⟩
    · cases h
    · cases h
    · cases h; exact hs
    · cases h
    · cases h
  rcases h with h | ⟨ps, h | h, _, hp⟩ | ⟨ps, h, _⟩
  · rcases h with h | ⟨_, h⟩ | ⟨_, h, _⟩ | h | ⟨_, h, _⟩ <;> cases h
  · unfold m3D at h
    cases h
    exact ⟨pq (hp _ (by simp)), pq (hp _ (by simp)), pq (hp _ (by simp))⟩
  · cases h
  · cases h
def IsMp (b : Int) (ms : List Int) (n : Int) (x : D) : Prop := Lis x (mpD b ms n)
def sp_are_rows : PSp := fun ds t P => ∃ x, ds = [x] ∧ T38 x ∧ ((∃ l, Lis x l ∧ l ≠ [] ∧ ∀ d ∈ l, r3B d = true) → P (.bl true) t) ∧ (¬ (∃ l, Lis x l ∧ l ≠ [] ∧ ∀ d ∈ l, r3B d = true) → P (.bl false) t)
def sp_follows_row : PSp := fun ds t P => ∃ b r s, ds = [.int b, m3D r, m3D s] ∧ 2 ≤ b ∧ b ≤ 30 ∧ (frP b r s → P (.bl true) t) ∧ (¬ frP b r s → P (.bl false) t)
def sp_shows_mark (W : Cl) : PSp := fun ds t P => ∃ b bs p d ms x, ds = [hD W b bs, d, .int p, x] ∧ Hou b bs ∧ Row d ms ∧ (ms.length : Int) = b - 1 ∧ 1 ≤ p ∧ Sm 7000 p ∧ T38 x ∧ (IsMp b ms (sd b bs p) x → P (.bl true) t) ∧ (¬ IsMp b ms (sd b bs p) x → P (.bl false) t)
theorem len_are_rows (as : List D) (t : Ts) (P : D → Ts → Prop) (h : sp_are_rows as t P) : as.length = 1 := by first | (obtain ⟨_, rfl, _⟩ := h; rfl) | (obtain ⟨_, _, rfl, _⟩ := h; rfl) | (obtain ⟨_, _, _, rfl, _⟩ := h; rfl) | (obtain ⟨_, _, _, _, rfl, _⟩ := h; rfl) | (obtain ⟨_, _, _, _, _, rfl, _⟩ := h; rfl) | (obtain ⟨_, _, _, _, _, _, rfl, _⟩ := h; rfl) | (obtain ⟨_, _, _, _, _, _, _, rfl, _⟩ := h; rfl) | (obtain ⟨_, _, _, _, _, _, _, _, rfl, _⟩ := h; rfl) | (obtain ⟨_, rfl | rfl, _⟩ := h <;> rfl) | (obtain ⟨_, _, rfl | rfl, _⟩ := h <;> rfl) | (obtain ⟨_, _, _, rfl | rfl, _⟩ := h <;> rfl) | (obtain ⟨_, _, _, _, rfl | rfl, _⟩ := h <;> rfl) | (obtain ⟨_, _, _, _, _, rfl | rfl, _⟩ := h <;> rfl) | (obtain ⟨_, _, _, _, _, _, rfl | rfl, _⟩ := h <;> rfl) | (obtain ⟨_, _, _, _, _, _, _, rfl | rfl, _⟩ := h <;> rfl) | (obtain ⟨_, _, _, _, _, _, _, _, rfl | rfl, _⟩ := h <;> rfl)
theorem len_follows_row (as : List D) (t : Ts) (P : D → Ts → Prop) (h : sp_follows_row as t P) : as.length = 3 := by first | (obtain ⟨_, rfl, _⟩ := h; rfl) | (obtain ⟨_, _, rfl, _⟩ := h; rfl) | (obtain ⟨_, _, _, rfl, _⟩ := h; rfl) | (obtain ⟨_, _, _, _, rfl, _⟩ := h; rfl) | (obtain ⟨_, _, _, _, _, rfl, _⟩ := h; rfl) | (obtain ⟨_, _, _, _, _, _, rfl, _⟩ := h; rfl) | (obtain ⟨_, _, _, _, _, _, _, rfl, _⟩ := h; rfl) | (obtain ⟨_, _, _, _, _, _, _, _, rfl, _⟩ := h; rfl) | (obtain ⟨_, rfl | rfl, _⟩ := h <;> rfl) | (obtain ⟨_, _, rfl | rfl, _⟩ := h <;> rfl) | (obtain ⟨_, _, _, rfl | rfl, _⟩ := h <;> rfl) | (obtain ⟨_, _, _, _, rfl | rfl, _⟩ := h <;> rfl) | (obtain ⟨_, _, _, _, _, rfl | rfl, _⟩ := h <;> rfl) | (obtain ⟨_, _, _, _, _, _, rfl | rfl, _⟩ := h <;> rfl) | (obtain ⟨_, _, _, _, _, _, _, rfl | rfl, _⟩ := h <;> rfl) | (obtain ⟨_, _, _, _, _, _, _, _, rfl | rfl, _⟩ := h <;> rfl)
theorem len_shows_mark (W : Cl) (as : List D) (t : Ts) (P : D → Ts → Prop) (h : sp_shows_mark W as t P) : as.length = 4 := by first | (obtain ⟨_, rfl, _⟩ := h; rfl) | (obtain ⟨_, _, rfl, _⟩ := h; rfl) | (obtain ⟨_, _, _, rfl, _⟩ := h; rfl) | (obtain ⟨_, _, _, _, rfl, _⟩ := h; rfl) | (obtain ⟨_, _, _, _, _, rfl, _⟩ := h; rfl) | (obtain ⟨_, _, _, _, _, _, rfl, _⟩ := h; rfl) | (obtain ⟨_, _, _, _, _, _, _, rfl, _⟩ := h; rfl) | (obtain ⟨_, _, _, _, _, _, _, _, rfl, _⟩ := h; rfl) | (obtain ⟨_, rfl | rfl, _⟩ := h <;> rfl) | (obtain ⟨_, _, rfl | rfl, _⟩ := h <;> rfl) | (obtain ⟨_, _, _, rfl | rfl, _⟩ := h <;> rfl) | (obtain ⟨_, _, _, _, rfl | rfl, _⟩ := h <;> rfl) | (obtain ⟨_, _, _, _, _, rfl | rfl, _⟩ := h <;> rfl) | (obtain ⟨_, _, _, _, _, _, rfl | rfl, _⟩ := h <;> rfl) | (obtain ⟨_, _, _, _, _, _, _, rfl | rfl, _⟩ := h <;> rfl) | (obtain ⟨_, _, _, _, _, _, _, _, rfl | rfl, _⟩ := h <;> rfl)
def d_are_rows : DS := (dSeq (dIf (dOr (dNot (dB (dCall sp_is_listing [] (dCons (dVar 0) dNil)))) (dB (dOp oEq (dCB bLen (dCons (dVar 0) dNil)) (dC (.int 0))))) (dSeq (dRet (dC (.bl false))) dNext) dNext) (dSeq (dFor (iSeq (dVar 0)) (gName 1) (dSeq (dIf (dOr (dNot (dB (dIsi [.tup] (dVar 1)))) (dOr (dB (dOp oNe (dCB bLen (dCons (dVar 1) dNil)) (dC (.int 3)))) (dNot (dB (dCB bAll (dCons (dLc [2] (iSeq (dVar 1)) (gName 2) dYes (dCall sp_is_whole [] (dCons (dVar 2) dNil))) dNil)))))) (dSeq (dRet (dC (.bl false))) dNext) dNext) dNext)) (dSeq (dRet (dC (.bl true))) dNext)))
def d_follows_row : DS := (dSeq (dAsg (dVar 1) (gTup 3 (gCons (gName 3) (gCons (gName 4) (gCons (gName 5) gNil))))) (dSeq (dAsg (dCB bDivmod (dCons (dVar 3) (dCons (dVar 0) dNil))) (gTup 2 (gCons (gName 6) (gCons (gName 7) gNil)))) (dSeq (dIf (dB (dOp oNe (dOp oIx (dVar 2) (dC (.int 0))) (dVar 6))) (dSeq (dRet (dC (.bl false))) dNext) dNext) (dSeq (dIf (dB (dOp oNe (dVar 4) (dOp oAdd (dOp oMul (dOp oSub (dVar 0) (dVar 7)) (dOp oIx (dVar 2) (dC (.int 1)))) (dOp oMul (dVar 7) (dOp oIx (dVar 2) (dC (.int 2))))))) (dSeq (dRet (dC (.bl false))) dNext) dNext) (dSeq (dRet (dOp oEq (dVar 5) (dOp oAdd (dOp oMul (dOp oSub (dOp oSub (dVar 0) (dVar 7)) (dC (.int 1))) (dOp oIx (dVar 2) (dC (.int 1)))) (dOp oMul (dOp oAdd (dVar 7) (dC (.int 1))) (dOp oIx (dVar 2) (dC (.int 2))))))) dNext)))))
def d_shows_mark (W : Cl) : DS := (dSeq (dAsg (dMeth W.House "base" (sp_House_base W) [] (dVar 0) dNil) (gName 4)) (dSeq (dIf (dOr (dNot (dB (dCall sp_are_rows [] (dCons (dVar 3) dNil)))) (dB (dOp oNe (dOp oIx (dOp oIx (dVar 3) (dC (.int 0))) (dC (.int 0))) (dMeth W.House "said" (sp_House_said W) [] (dVar 0) (dCons (dVar 2) dNil))))) (dSeq (dRet (dC (.bl false))) dNext) dNext) (dSeq (dFor (iRng1 (dOp oSub (dCB bLen (dCons (dVar 3) dNil)) (dC (.int 1)))) (gName 5) (dSeq (dIf (dOr (dB (dOp oLt (dOp oIx (dOp oIx (dVar 3) (dVar 5)) (dC (.int 0))) (dVar 4))) (dNot (dB (dCall sp_follows_row [] (dCons (dVar 4) (dCons (dOp oIx (dVar 3) (dVar 5)) (dCons (dOp oIx (dVar 3) (dOp oAdd (dVar 5) (dC (.int 1)))) dNil))))))) (dSeq (dRet (dC (.bl false))) dNext) dNext) dNext)) (dSeq (dAsg (dOp oIx (dVar 3) (dUn oNeg (dC (.int 1)))) (gTup 3 (gCons (gName 6) (gCons (gName 7) (gCons (gName 8) gNil))))) (dSeq (dIf (dOr (dNot (dB (dChain oLt oLt (dC (.int 0)) (dVar 6) (dVar 4)))) (dB (dOp oNe (dVar 7) (dOp oIx (dVar 1) (dOp oSub (dVar 6) (dC (.int 1))))))) (dSeq (dRet (dC (.bl false))) dNext) dNext) (dSeq (dRet (dOp oEq (dVar 8) (dIfE (dB (dOp oLt (dVar 6) (dOp oSub (dVar 4) (dC (.int 1))))) (dOp oIx (dVar 1) (dVar 6)) (dOp oMul (dVar 4) (dOp oIx (dVar 1) (dC (.int 0))))))) dNext))))))
theorem lis_inj38 {x : D} {l m : List D} (h : Lis x l) (g : Lis x m) : l = m := by
  rcases h with rfl | rfl <;> rcases g with g | g <;> cases g <;> rfl
theorem d_are_rows_ok (as : List D) (t : Ts) (P : D → Ts → Prop) (h : sp_are_rows as t P) : d_are_rows (endsOf P) (start0 ["thing", "row", "part"] as) t := by
  obtain ⟨x, rfl, hx, yes, no⟩ := h
  have hx0 := hx
  rcases hx with rfl | ⟨_, rfl⟩ | ⟨_, rfl, _⟩ | ⟨_, rfl, _⟩ | rfl | ⟨l, hx, hl, hdN⟩
  iterate 5
    · have k := no (by rintro ⟨l, z | z, _⟩ <;> cases z)
      conv => whnf
      refine ⟨_, rfl, hx0.tn, ?_⟩
      exact k
  by_cases h0 : l = []
  · have k := no (by
      rintro ⟨m, z, hm, _⟩
      exact hm (by rw [← lis_inj38 hx z]; exact h0))
    subst h0
    rcases hx with rfl | rfl
    all_goals
      conv => whnf
      refine ⟨_, rfl, hx0.tn, ?_⟩
      exact k
  have l0 : ¬ (l.length : Int) = 0 := by
    have := List.length_pos_iff.mpr h0
    omega
  have bad : ∀ {d : D}, d ∈ l → r3B d = false → P (.bl false) t := fun {d} hdN hr => no (by
    rintro ⟨m, z, _, hm⟩
    rw [← lis_inj38 hx z] at hm
    rw [hm d hdN] at hr
    cases hr)
  have good : (∀ d ∈ l, r3B d = true) → P (.bl true) t := fun h => yes ⟨l, hx, h0, h⟩
  clear yes no
  rcases hx with rfl | rfl
  all_goals
    conv => whnf
    refine ⟨_, rfl, hx0.tn, ?_⟩
    conv => whnf
    refine br_nq (l0) ?_
    conv => whnf
    refine ⟨fun i e m => t = m ∧ ∃ s1 s2 : Sl, (∀ d ∈ l.take i, r3B d = true) ∧ e = [.val _, s1, s2], ⟨rfl, _, _, by simp, rfl⟩, fun i d e m hdi hI => ?_, fun e m hI => ?_⟩
    · obtain ⟨rfl, s1, s2, hpre, rfl⟩ := hI
      have hmem := List.mem_of_getElem? hdi
      have nx : r3B d = true → ∀ e ∈ l.take (i + 1), r3B e = true := fun hr e he => by
        rw [List.take_succ, hdi] at he
        rcases List.mem_append.mp he with h | h
        · exact hpre e h
        · have : e = d := by simpa using h
          rw [this]; exact hr
      conv => whnf
      rcases hdN d hmem with hr | ⟨ps, rfl | rfl, hl4, hps⟩ | ⟨ps, rfl, _⟩
      · rcases hr with rfl | ⟨_, rfl⟩ | ⟨_, rfl, _⟩ | rfl | ⟨_, rfl, _⟩ <;> exact bad hmem rfl
      · rcases ps with _ | ⟨a, _ | ⟨b, _ | ⟨c, _ | ⟨g, r⟩⟩⟩⟩
        · exact bad hmem rfl
        · exact bad hmem rfl
        · exact bad hmem rfl
        · conv => whnf
          refine lc_idx (fun i => .bl (isInt ([a, b, c].getD i .non))) (by show 3 ≤ zLen; unfold zLen; omega) (fun j x hx Qy q => ?_) ?_
          · refine ⟨rfl, ?_⟩
            conv => whnf
            have e : [a, b, c].getD j .non = x := by rw [List.getD_eq_getElem?_getD, hx]; rfl
            rw [e] at q
            refine ⟨x, rfl, (hps x (List.mem_of_getElem? hx)).tn, ?_⟩
            exact q
          refine ⟨[isInt a, isInt b, isInt c], rfl, ?_⟩
          have e3 : [isInt a, isInt b, isInt c].all id = r3B (.tup [a, b, c]) := by
            show (isInt a && (isInt b && (isInt c && true))) = (isInt a && (isInt b && isInt c))
            rw [Bool.and_true]
          rw [e3]
          cases hr : r3B (.tup [a, b, c]) with
          | true =>
            conv => whnf
            exact ⟨rfl, _, _, nx hr, rfl⟩
          | false =>
            conv => whnf
            exact bad hmem hr
        · rcases r with _ | ⟨g', r⟩
          · exact bad hmem rfl
          · simp at hl4
      · exact bad hmem rfl
      · exact bad hmem rfl
    · obtain ⟨rfl, s1, s2, hpre, rfl⟩ := hI
      rw [List.take_length] at hpre
      conv => whnf
      exact good hpre
theorem d_follows_row_ok (as : List D) (t : Ts) (P : D → Ts → Prop) (h : sp_follows_row as t P) : d_follows_row (endsOf P) (start0 ["base", "row", "head", "number", "mark", "further", "part", "rest"] as) t := by
  obtain ⟨b, ⟨n, m, f⟩, ⟨n', m', f'⟩, rfl, h2, h30, yes, no⟩ := h
  have no : ¬ (n' = n / b ∧ m = (b - n % b) * m' + n % b * f' ∧ f = (b - n % b - 1) * m' + (n % b + 1) * f') → P (.bl false) t := no
  have yes : (n' = n / b ∧ m = (b - n % b) * m' + n % b * f' ∧ f = (b - n % b - 1) * m' + (n % b + 1) * f') → P (.bl true) t := yes
  have r0 := Int.emod_nonneg n (show b ≠ 0 by omega)
  have r1 := Int.emod_lt_of_pos n (show 0 < b by omega)
  have e1 : m3D ⟨n, m, f⟩ = .tup [.int n, .int m, .int f] := rfl
  have e2 : m3D ⟨n', m', f'⟩ = .tup [.int n', .int m', .int f'] := rfl
  rw [e1, e2]
  conv => whnf
  refine ⟨rfl, ?_⟩
  conv => whnf
  refine ⟨⟨by omega, by omega⟩, ?_⟩
  conv => whnf
  refine ⟨rfl, ?_⟩
  conv => whnf
  refine ⟨_, rfl, ?_⟩
  conv => whnf
  by_cases h1 : n' = n / b
  rotate_left
  · refine br_nn (h1) ?_
    conv => whnf
    exact no fun z => h1 z.1
  refine br_ne (h1) ?_
  conv => whnf
  refine ⟨_, rfl, ?_⟩
  conv => whnf
  refine ⟨.l (by omega) (by omega), ?_⟩
  conv => whnf
  refine ⟨_, rfl, ?_⟩
  conv => whnf
  refine ⟨.l (by omega) (by omega), ?_⟩
  conv => whnf
  by_cases h3 : m = (b - n % b) * m' + n % b * f'
  rotate_left
  · refine br_nn (h3) ?_
    conv => whnf
    exact no fun z => h3 z.2.1
  refine br_ne (h3) ?_
  conv => whnf
  refine ⟨_, rfl, ?_⟩
  conv => whnf
  refine ⟨.l (by omega) (by omega), ?_⟩
  conv => whnf
  refine ⟨_, rfl, ?_⟩
  conv => whnf
  refine ⟨.l (by omega) (by omega), ?_⟩
  conv => whnf
  by_cases h4 : f = (b - n % b - 1) * m' + (n % b + 1) * f'
  · rw [decide_eq_true h4]
    exact yes ⟨h1, h3, h4⟩
  · rw [decide_eq_false h4]
    exact no fun z => h4 z.2.2
theorem mp_r3 {b n : Int} {ms : List Int} : ∀ d ∈ mpD b ms n, r3B d = true := fun d hdN => by
  unfold mpD at hdN
  obtain ⟨x, _, rfl⟩ := List.mem_map.mp hdN
  rfl
theorem mp_ne {b n : Int} {ms : List Int} : mpD b ms n ≠ [] := by
  obtain ⟨r, hr⟩ := hdN_head (b := b) (n := n)
  unfold mpD
  rw [hr]
  simp
theorem ok_is {b n : Int} {ms : List Int} (n1 : 1 ≤ n) {L : List M3} (hne : L ≠ []) : L.map m3D = mpD b ms n ↔ (L.getD 0 m30).n = n ∧ OkM b ms L := by
  cases L with
  | nil => exact absurd rfl hne
  | cons r L =>
    constructor
    · intro h
      have h0 := h
      obtain ⟨q, hq⟩ := hdN_head (b := b) (n := n)
      unfold mpD at h
      rw [hq] at h
      have eb := m3_inj (s := ⟨n, Mk b ms n, Mk b ms (n + 1)⟩) (List.cons.inj h).1
      have e : r.n = n := by rw [eb]
      exact ⟨e, by omega, by rw [e]; exact h0⟩
    · rintro ⟨h1, h2, h3⟩
      have h1 : r.n = n := h1
      rw [h3, h1]
theorem d_shows_mark_ok (W : Cl) (as : List D) (t : Ts) (P : D → Ts → Prop) (h : sp_shows_mark W as t P) : d_shows_mark W (endsOf P) (start0 ["house", "marks", "place", "paper", "base", "at", "number", "mark", "further"] as) t := by
  obtain ⟨b, bs, p, d, ms, x, rfl, hh, hr, hl, p1, ps, hx, yes, no⟩ := h
  have h2 := hh.b2
  have h30 := hh.b30
  have n01 := sd_pos hh p
  conv => whnf
  refine ⟨rfl, ?_⟩
  conv => whnf
  refine ⟨rfl, ?_⟩
  conv => whnf
  refine ⟨b, bs, rfl, ?_⟩
  conv => whnf
  refine ⟨x, rfl, hx, fun hr3 => ?_, fun hr3 => ?_⟩
  rotate_left
  · conv => whnf
    refine no fun z => hr3 ⟨_, z, mp_ne, mp_r3⟩
  obtain ⟨l, hxl, hne, hall⟩ := hr3
  obtain ⟨L, rfl⟩ := r3s_is hall
  have Lne : L ≠ [] := fun z => hne (by rw [z]; rfl)
  have L0 : 0 < L.length := List.length_pos_iff.mpr Lne
  have hLm : (L.map m3D).length = L.length := List.length_map ..
  have hsz : L.length ≤ 265 ∧ ∀ r ∈ L, Sm 1800 r.n ∧ Sm 1800 r.m ∧ Sm 1800 r.f := by
    rcases hx with rfl | ⟨_, rfl⟩ | ⟨_, rfl, _⟩ | ⟨_, rfl, _⟩ | rfl | ⟨m, hm, hml, hmd⟩
    iterate 5
      · rcases hxl with z | z <;> cases z
    rw [← lis_inj38 hxl hm, hLm] at hml
    rw [← lis_inj38 hxl hm] at hmd
    exact ⟨hml, fun r hr => rx_sm (hmd _ (List.mem_map_of_mem hr))⟩
  obtain ⟨hL, hLs⟩ := hsz
  have iff0 : IsMp b ms (sd b bs p) x ↔ (L.getD 0 m30).n = sd b bs p ∧ OkM b ms L := by
    rw [← ok_is n01 Lne]
    constructor
    · intro z
      exact lis_inj38 hxl z
    · intro z
      unfold IsMp
      rw [← z]
      exact hxl
  have at0 : atI (L.map m3D) 0 = some (m3D (L.getD 0 m30)) := atI_nat (by decide) (by rw [List.getElem?_map, show (0 : Int).toNat = 0 from rfl, List.getD_eq_getElem?_getD, List.getElem?_eq_getElem L0]; rfl)
  have atj : ∀ {j : Nat}, j < L.length → atI (L.map m3D) (j : Int) = some (m3D (L.getD j m30)) := fun {j} hj => atI_nat (by omega) (by rw [List.getElem?_map, show ((j : Nat) : Int).toNat = j by omega, List.getD_eq_getElem?_getD, List.getElem?_eq_getElem hj]; rfl)
  have atZ : atI (L.map m3D) (-1) = some (m3D (L.getD (L.length - 1) m30)) := by
    unfold atI
    rw [if_neg (by decide), if_pos (by omega), hLm, List.getElem?_map, show ((-1 : Int) + (L.length : Int)).toNat = L.length - 1 by omega, List.getD_eq_getElem?_getD, List.getElem?_eq_getElem (show L.length - 1 < L.length by omega)]
    rfl
  have drp : ∀ {j : Nat}, j < L.length → L.drop j = L.getD j m30 :: L.drop (j + 1) := fun {j} hj => by
    rw [List.getD_eq_getElem?_getD, List.getElem?_eq_getElem hj]
    exact List.drop_eq_getElem_cons hj
  have lastR : OkM b ms (L.drop (L.length - 1)) ↔ laP b ms (L.getD (L.length - 1) m30) := by
    rw [drp (by omega), List.drop_eq_nil_of_le (by omega)]
    exact ok_one h2
  have yesO : (L.getD 0 m30).n = sd b bs p ∧ OkM b ms L → P (.bl true) t := fun z => yes (iff0.mpr z)
  have noO : ¬ ((L.getD 0 m30).n = sd b bs p ∧ OkM b ms L) → P (.bl false) t := fun z => no fun y => z (iff0.mp y)
  clear iff0 yes no hx
  obtain ⟨nz, hnz⟩ : ∃ nz, sd b bs p = nz := ⟨_, rfl⟩
  rw [hnz] at yesO noO
  rcases hxl with rfl | rfl
  all_goals
    conv => whnf
    refine ⟨_, at0, ?_⟩
    conv => whnf
    refine ⟨_, rfl, ?_⟩
    conv => whnf
    refine ⟨rfl, ?_⟩
    conv => whnf
    refine ⟨rfl, ?_⟩
    conv => whnf
    refine ⟨b, bs, p, rfl, hh, p1, ps.mono (by decide), fun m0 hm0 => ?_⟩
    obtain rfl := sd_eq hh hm0
    rw [hnz]
    conv => whnf
    by_cases hz : (L.getD 0 m30).n = nz
    rotate_left
    · refine br_nn hz ?_
      exact noO fun z => hz z.1
    refine br_ne hz ?_
    have yes2 : OkM b ms L → P (.bl true) t := fun z => yesO ⟨hz, z⟩
    have no2 : ¬ OkM b ms L → P (.bl false) t := fun z => noO fun y => z y.2
    conv => whnf
    rw [hLm]
    refine ⟨by omega, ?_⟩
    conv => whnf
    refine ⟨fun i e m => t = m ∧ ∃ s5 s6 s7 s8 : Sl, (i + 1 ≤ L.length ∧ (OkM b ms L ↔ OkM b ms (L.drop i))) ∧ e = [.val (hD W b bs), .val d, .val (.int p), .val _, .val (.int b), s5, s6, s7, s8], ⟨rfl, _, _, _, _, ⟨by omega, Iff.rfl⟩, rfl⟩, fun i x e m hx hI => ?_, fun e m hI => ?_⟩
    · obtain ⟨rfl, s5, s6, s7, s8, ⟨hi1, hok⟩, rfl⟩ := hI
      obtain ⟨hi, rfl⟩ := rng_get hx
      have hi : i + 1 < L.length := by omega
      rw [drp (show i < L.length by omega), drp hi, ok_cons h2, ← drp hi] at hok
      rw [show (0 : Int) + i = i by omega]
      conv => whnf
      refine ⟨_, atj (show i < L.length by omega), ?_⟩
      conv => whnf
      refine ⟨_, rfl, ?_⟩
      conv => whnf
      by_cases hb : (L.getD i m30).n < b
      · refine br_eq hb ?_
        exact no2 fun z => by
          have := (hok.mp z).1.1
          omega
      refine br_nq hb ?_
      conv => whnf
      refine ⟨_, atj (show i < L.length by omega), ?_⟩
      conv => whnf
      have at1 := atj hi
      rw [show (((i + 1 : Nat) : Int)) = (i : Int) + 1 by omega] at at1
      refine ⟨_, at1, ?_⟩
      refine ⟨b, _, _, rfl, h2, h30, fun hf => ?_, fun hf => ?_⟩
      · conv => whnf
        refine ⟨rfl, _, _, _, _, ⟨by omega, ?_⟩, rfl⟩
        rw [hok]
        exact ⟨fun z => z.2, fun z => ⟨⟨by omega, hf⟩, z⟩⟩
      · conv => whnf
        exact no2 fun z => hf (hok.mp z).1.2
    · obtain ⟨rfl, s5, s6, s7, s8, ⟨hi1, hok⟩, rfl⟩ := hI
      rw [rng_len, show ((L.length : Int) - 1).toNat = L.length - 1 by omega, lastR] at hok
      generalize L.getD (L.length - 1) m30 = r at atZ hok
      obtain ⟨n, m, f⟩ := r
      have atZ2 : atI (L.map m3D) (-1) = some (.tup [.int n, .int m, .int f]) := atZ
      have hok : OkM b ms L ↔ ((0 < n ∧ n < b) ∧ m = ms.getD (n - 1).toNat 0 ∧ f = mF b ms n) := hok
      conv => whnf
      refine ⟨_, atZ2, ?_⟩
      conv => whnf
      refine ⟨rfl, ?_⟩
      conv => whnf
      by_cases q1 : 0 < n
      rotate_left
      · refine br_nq q1 ?_
        exact no2 fun z => q1 (hok.mp z).1.1
      refine br_eq q1 ?_
      conv => whnf
      by_cases q2 : n < b
      rotate_left
      · rw [decide_eq_false q2]
        exact no2 fun z => q2 (hok.mp z).1.2
      rw [decide_eq_true q2]
      conv => whnf
      refine row_at hr (by omega) (by omega) ?_
      conv => whnf
      by_cases q3 : m = ms.getD (n - 1).toNat 0
      rotate_left
      · refine br_nn q3 ?_
        exact no2 fun z => q3 (hok.mp z).2.1
      refine br_ne q3 ?_
      conv => whnf
      by_cases q4 : n < b - 1
      · refine br_eq q4 ?_
        have em : mF b ms n = ms.getD n.toNat 0 := by unfold mF; rw [if_pos q4]
        conv => whnf
        refine row_at hr (by omega) (by omega) ?_
        conv => whnf
        by_cases q5 : f = ms.getD n.toNat 0
        · rw [decide_eq_true q5]
          exact yes2 (hok.mpr ⟨⟨q1, q2⟩, q3, by rw [em]; exact q5⟩)
        · rw [decide_eq_false q5]
          exact no2 fun z => q5 (by rw [← em]; exact (hok.mp z).2.2)
      · refine br_nq q4 ?_
        have em : mF b ms n = b * ms.getD 0 0 := by unfold mF; rw [if_neg q4]
        conv => whnf
        refine row_at hr (by decide) (by omega) ?_
        conv => whnf
        refine ⟨.l (by omega) (by omega), ?_⟩
        conv => whnf
        by_cases q5 : f = b * ms.getD 0 0
        · have q6 : f = b * ms.getD (Int.toNat 0) 0 := q5
          rw [decide_eq_true q6]
          exact yes2 (hok.mpr ⟨⟨q1, q2⟩, q3, by rw [em]; exact q5⟩)
        · have q6 : ¬ f = b * ms.getD (Int.toNat 0) 0 := q5
          rw [decide_eq_false q6]
          exact no2 fun z => q5 (by rw [← em]; exact (hok.mp z).2.2)
end Q
/-! MPapA -/
namespace Q
open PySem
/-! ### cuts of any list -/
end Q
/-! M_k38c -/
namespace Q
open PySem
/-! ### papers of marks, bent -/
def BqS (s : Nat) (p : D) : Prop := p = .non ∨ (∃ b, p = .bl b) ∨ (∃ i, p = .int i ∧ Sm s i) ∨ p = .str "0" ∨ ∃ i, p = .tup [.int i] ∧ Sm s i
def BxS (s : Nat) (d : D) : Prop := BqS s d ∨ ∃ ps, (d = .tup ps ∨ d = .lst ps) ∧ ps.length ≤ 4 ∧ ∀ p ∈ ps, BqS s p
theorem BqS.pq {s : Nat} {p : D} (h : BqS s p) (hs : s ≤ 1800) : Pq p := by
  rcases h with h | h | ⟨i, h, hi⟩ | h | ⟨i, h, hi⟩
  · exact .inl h
  · exact .inr (.inl h)
  · exact .inr (.inr (.inl ⟨i, h, hi.mono hs⟩))
  · exact .inr (.inr (.inr (.inl h)))
  · exact .inr (.inr (.inr (.inr ⟨i, h, hi.mono hs⟩)))
theorem BqS.mono {s s' : Nat} {p : D} (h : BqS s p) (hs : s ≤ s') : BqS s' p := by
  rcases h with h | h | ⟨i, h, hi⟩ | h | ⟨i, h, hi⟩
  · exact .inl h
  · exact .inr (.inl h)
  · exact .inr (.inr (.inl ⟨i, h, hi.mono hs⟩))
  · exact .inr (.inr (.inr (.inl h)))
  · exact .inr (.inr (.inr (.inr ⟨i, h, hi.mono hs⟩)))
theorem BxS.mono {s s' : Nat} {p : D} (h : BxS s p) (hs : s ≤ s') : BxS s' p := by
  rcases h with h | ⟨ps, h, hl, hp⟩
  · exact .inl (h.mono hs)
  · exact .inr ⟨ps, h, hl, fun q hq => (hp q hq).mono hs⟩
theorem BxS.rx {s : Nat} {d : D} (h : BxS s d) (hs : s ≤ 1800) : Rx d := by
  rcases h with h | ⟨ps, h, hl, hp⟩
  · exact .inl (h.pq hs)
  · exact .inr (.inl ⟨ps, h, hl, fun q hq => (hp q hq).pq hs⟩)
theorem BqS.pt {s : Nat} {p : D} (h : BqS s p) : Pt38 p := by
  rcases h with h | h | ⟨i, h, _⟩ | h | ⟨i, h, _⟩
  · exact .inl h
  · exact .inr (.inl h)
  · exact .inr (.inr (.inl ⟨i, h⟩))
  · exact .inr (.inr (.inr (.inl h)))
  · exact .inr (.inr (.inr (.inr ⟨i, h⟩)))
theorem BxS.rw38 {s : Nat} {d : D} (h : BxS s d) : Rw38 d := by
  rcases h with h | ⟨ps, h | h, _, hp⟩
  · exact .inl h.pt
  · exact .inr (.inl ⟨ps, h, fun q hq => (hp q hq).pt⟩)
  · exact .inr (.inr ⟨ps, h⟩)
theorem bq_plain {s : Nat} {p : D} (h : BqS s p) : plain p = true ∧ deep p ≤ 1 := by
  rcases h with rfl | ⟨_, rfl⟩ | ⟨_, rfl, _⟩ | rfl | ⟨_, rfl, _⟩
  · exact ⟨rfl, by decide⟩
  · exact ⟨rfl, by show 0 ≤ 1; decide⟩
  · exact ⟨rfl, by show 0 ≤ 1; decide⟩
  · exact ⟨by decide +kernel, by show 0 ≤ 1; decide⟩
  · exact ⟨rfl, by show 1 ≤ 1; decide⟩
def sp__law_bent_row : PSp := fun ds t P => ∃ d n, ∃ s : Nat, ds = [.pen, d] ∧ BxS s d ∧ 3 ≤ s ∧ s ≤ 1700 ∧ Pt n t ∧ n < 80000000 ∧ ∀ d' t', BxS (s + 1) d' → Pt (n + 2) t' → P d' t'
def sp__law_bent : PSp := fun ds t P => ∃ l n, ∃ s : Nat, ds = [.pen, .lst l] ∧ l ≠ [] ∧ l.length ≤ 800 ∧ (∀ d ∈ l, BxS s d) ∧ 3 ≤ s ∧ s ≤ 1700 ∧ Pt n t ∧ n < 70000000 ∧ ∀ m t', (∀ d ∈ m, BxS (s + 1) d) → m.length ≤ l.length + 1 → Pt (n + 8) t' → P (.lst m) t'
theorem len__law_bent_row (as : List D) (t : Ts) (P : D → Ts → Prop) (h : sp__law_bent_row as t P) : as.length = 2 := by first | (obtain ⟨_, rfl, _⟩ := h; rfl) | (obtain ⟨_, _, rfl, _⟩ := h; rfl) | (obtain ⟨_, _, _, rfl, _⟩ := h; rfl) | (obtain ⟨_, _, _, _, rfl, _⟩ := h; rfl) | (obtain ⟨_, _, _, _, _, rfl, _⟩ := h; rfl) | (obtain ⟨_, _, _, _, _, _, rfl, _⟩ := h; rfl) | (obtain ⟨_, _, _, _, _, _, _, rfl, _⟩ := h; rfl) | (obtain ⟨_, _, _, _, _, _, _, _, rfl, _⟩ := h; rfl) | (obtain ⟨_, rfl | rfl, _⟩ := h <;> rfl) | (obtain ⟨_, _, rfl | rfl, _⟩ := h <;> rfl) | (obtain ⟨_, _, _, rfl | rfl, _⟩ := h <;> rfl) | (obtain ⟨_, _, _, _, rfl | rfl, _⟩ := h <;> rfl) | (obtain ⟨_, _, _, _, _, rfl | rfl, _⟩ := h <;> rfl) | (obtain ⟨_, _, _, _, _, _, rfl | rfl, _⟩ := h <;> rfl) | (obtain ⟨_, _, _, _, _, _, _, rfl | rfl, _⟩ := h <;> rfl) | (obtain ⟨_, _, _, _, _, _, _, _, rfl | rfl, _⟩ := h <;> rfl)
theorem len__law_bent (as : List D) (t : Ts) (P : D → Ts → Prop) (h : sp__law_bent as t P) : as.length = 2 := by first | (obtain ⟨_, rfl, _⟩ := h; rfl) | (obtain ⟨_, _, rfl, _⟩ := h; rfl) | (obtain ⟨_, _, _, rfl, _⟩ := h; rfl) | (obtain ⟨_, _, _, _, rfl, _⟩ := h; rfl) | (obtain ⟨_, _, _, _, _, rfl, _⟩ := h; rfl) | (obtain ⟨_, _, _, _, _, _, rfl, _⟩ := h; rfl) | (obtain ⟨_, _, _, _, _, _, _, rfl, _⟩ := h; rfl) | (obtain ⟨_, _, _, _, _, _, _, _, rfl, _⟩ := h; rfl) | (obtain ⟨_, rfl | rfl, _⟩ := h <;> rfl) | (obtain ⟨_, _, rfl | rfl, _⟩ := h <;> rfl) | (obtain ⟨_, _, _, rfl | rfl, _⟩ := h <;> rfl) | (obtain ⟨_, _, _, _, rfl | rfl, _⟩ := h <;> rfl) | (obtain ⟨_, _, _, _, _, rfl | rfl, _⟩ := h <;> rfl) | (obtain ⟨_, _, _, _, _, _, rfl | rfl, _⟩ := h <;> rfl) | (obtain ⟨_, _, _, _, _, _, _, rfl | rfl, _⟩ := h <;> rfl) | (obtain ⟨_, _, _, _, _, _, _, _, rfl | rfl, _⟩ := h <;> rfl)
def d__law_bent_row : DS := (dSeq (dIf (dOr (dNot (dB (dIsi [.tup] (dVar 1)))) (dOr (dB (dOp oNe (dCB bLen (dCons (dVar 1) dNil)) (dC (.int 3)))) (dB (dOp oNe (dLc [6] (iSeq (dVar 1)) (gName 6) (dNot (dB (dCall sp__law_whole [] (dCons (dVar 6) dNil)))) (dVar 6)) (dLst dNil))))) (dSeq (dRet (dC .non)) dNext) dNext) (dSeq (dAsg (dVar 1) (gTup 3 (gCons (gName 3) (gCons (gName 4) (gCons (gName 5) gNil))))) (dSeq (dAsg (dLst (dCons (dTup (dCons (dOp oAdd (dVar 3) (dC (.int 1))) (dCons (dVar 4) (dCons (dVar 5) dNil)))) (dCons (dTup (dCons (dVar 3) (dCons (dOp oAdd (dVar 4) (dC (.int 1))) (dCons (dVar 5) dNil)))) (dCons (dTup (dCons (dVar 3) (dCons (dVar 4) (dCons (dOp oSub (dVar 5) (dC (.int 1))) dNil)))) (dCons (dTup (dCons (dVar 3) (dCons (dVar 5) (dCons (dVar 4) dNil)))) (dCons (dSlice (dVar 1) dNoPart (dPart (dC (.int 2)))) dNil)))))) (gName 2)) (dSeq (dAsg (dOp oAdd (dVar 2) (dLst (dCons (dCB bList (dCons (dVar 1) dNil)) (dCons (dOp oAdd (dVar 1) (dTup (dCons (dC (.int 0)) dNil))) (dCons (dTup (dCons (dVar 3) (dCons (dOp oEq (dVar 4) (dC (.int 1))) (dCons (dVar 5) dNil)))) (dCons (dTup (dCons (dOp oEq (dVar 3) (dC (.int 1))) (dCons (dVar 4) (dCons (dVar 5) dNil)))) (dCons (dC .non) dNil))))))) (gName 2)) (dSeq (dAsg (dOp oAdd (dVar 2) (dLst (dCons (dTup (dCons (dVar 3) (dCons (dC (.str "0")) (dCons (dVar 5) dNil)))) (dCons (dTup (dCons (dVar 3) (dCons (dOp oSub (dC (.int 0)) (dVar 4)) (dCons (dVar 5) dNil)))) (dCons (dTup (dCons (dTup (dCons (dVar 3) dNil)) (dCons (dVar 4) (dCons (dVar 5) dNil)))) (dCons (dTup (dCons (dVar 3) (dCons (dVar 4) (dCons (dC .non) dNil)))) dNil)))))) (gName 2)) (dSeq (dRet (dCall sp__law_pick_2 [] (dCons (dVar 0) (dCons (dVar 2) dNil)))) dNext))))))
def d__law_bent : DS := (dSeq (dPar 2 3 (dCons (dCall sp__law_draw_2 [] (dCons (dVar 0) (dCons (dCB bLen (dCons (dVar 1) dNil)) dNil))) (dCons (dCall sp__law_draw_2 [] (dCons (dVar 0) (dCons (dC (.int 7)) dNil))) dNil))) (dSeq (dIf (dB (dOp oEq (dVar 3) (dC (.int 0)))) (dSeq (dRet (dOp oAdd (dSlice (dVar 1) dNoPart (dPart (dVar 2))) (dSlice (dVar 1) (dPart (dOp oAdd (dVar 2) (dC (.int 1)))) dNoPart))) dNext) dNext) (dSeq (dIf (dB (dOp oEq (dVar 3) (dC (.int 1)))) (dSeq (dRet (dOp oAdd (dSlice (dVar 1) dNoPart (dPart (dOp oAdd (dVar 2) (dC (.int 1))))) (dSlice (dVar 1) (dPart (dVar 2)) dNoPart))) dNext) dNext) (dSeq (dIf (dB (dOp oEq (dVar 3) (dC (.int 2)))) (dSeq (dAsg (dRev (dSlice (dVar 1) (dPart (dVar 2)) (dPart (dOp oAdd (dVar 2) (dC (.int 2)))))) (gName 4)) (dSeq (dRet (dOp oAdd (dOp oAdd (dSlice (dVar 1) dNoPart (dPart (dVar 2))) (dVar 4)) (dSlice (dVar 1) (dPart (dOp oAdd (dVar 2) (dC (.int 2)))) dNoPart))) dNext)) dNext) (dSeq (dRet (dOp oAdd (dOp oAdd (dSlice (dVar 1) dNoPart (dPart (dVar 2))) (dLst (dCons (dCall sp__law_bent_row [] (dCons (dVar 0) (dCons (dOp oIx (dVar 1) (dVar 2)) dNil))) dNil))) (dSlice (dVar 1) (dPart (dOp oAdd (dVar 2) (dC (.int 1)))) dNoPart))) dNext)))))
theorem fm_range38 {α β : Type} (g : α → Option β) (E : List α) : (List.range E.length).filterMap (fun i => (E[i]?).bind g) = E.filterMap g := by
  have e1 : (List.range E.length).map (fun i => E[i]?) = E.map some := by
    refine List.ext_getElem (by simp) fun i h1 h2 => ?_
    simp only [List.length_map, List.length_range] at h1
    simp [List.getElem?_eq_getElem h1]
  have e2 : (List.range E.length).filterMap (fun i => (E[i]?).bind g) = ((List.range E.length).map (fun i => E[i]?)).filterMap (fun o => o.bind g) := by rw [List.filterMap_map]; rfl
  rw [e2, e1, List.filterMap_map]
  rfl
theorem fm_fil38 (p : D → Bool) : ∀ E : List D, E.filterMap (fun e => if p e = true then some e else none) = E.filter p
  | [] => rfl
  | e :: E => by
    rw [List.filterMap_cons, fm_fil38 p E, List.filter_cons]
    cases p e <;> rfl
theorem ne_nil38 : ∀ M : List D, deq (.lst M) (.lst []) = decide (M = [])
  | [] => rfl
  | _ :: _ => rfl
theorem plains_mem : ∀ {l : List D}, (∀ d ∈ l, plain d = true ∧ deep d ≤ 3) → plains l = true ∧ deeps l ≤ 3
  | [], _ => ⟨rfl, Nat.zero_le _⟩
  | d :: l, h => by
    obtain ⟨a1, a2⟩ := h d (List.mem_cons_self ..)
    obtain ⟨b1, b2⟩ := plains_mem fun e he => h e (List.mem_cons_of_mem _ he)
    refine ⟨?_, ?_⟩
    · show (plain d && plains l) = true
      rw [a1, b1]; rfl
    · show max (deep d) (deeps l) ≤ 3
      omega
theorem sm_one {s : Nat} {i d : Int} (h : Sm s i) (h1 : -1 ≤ d) (h2 : d ≤ 1) : Sm (s + 1) (i + d) := by
  unfold Sm at *
  have := Nat.pow_succ 2 s
  have := Nat.two_pow_pos s
  omega
theorem bx3 {s : Nat} {a b c : D} (ha : BqS s a) (hb : BqS s b) (hc : BqS s c) : BxS s (.tup [a, b, c]) := .inr ⟨_, .inl rfl, by show 3 ≤ 4; decide, fun p hp => by
  simp only [List.mem_cons, List.not_mem_nil, or_false] at hp
  rcases hp with rfl | rfl | rfl
  · exact ha
  · exact hb
  · exact hc⟩
theorem d__law_bent_row_ok (as : List D) (t : Ts) (P : D → Ts → Prop) (h : sp__law_bent_row as t P) : d__law_bent_row (endsOf P) (start0 ["_law_tape_here", "_law_row", "_law_some", "_law_number", "_law_mark_here", "_law_more", "_law_part"] as) t := by
  obtain ⟨d, n0, s, rfl, hdN, s3, s17, hp, hn, k⟩ := h
  have kn : P .non t := k _ _ (.inl (.inl rfl)) (hp.mono (by omega))
  rcases hdN with hdN | ⟨ps, rfl | rfl, hl, hps⟩
  · rcases hdN with rfl | ⟨_, rfl⟩ | ⟨_, rfl, _⟩ | rfl | ⟨_, rfl, _⟩ <;> exact kn
  rotate_left
  · exact kn
  rcases ps with _ | ⟨a, _ | ⟨b, _ | ⟨c, _ | ⟨g, r⟩⟩⟩⟩
  · exact kn
  · exact kn
  · exact kn
  rotate_left
  · rcases r with _ | ⟨g', r⟩
    · exact kn
    · simp at hl
  have ha := hps a (by simp)
  have hb := hps b (by simp)
  have hc := hps c (by simp)
  conv => whnf
  refine lc_fm (fun i => (([a, b, c] : List D)[i]?).bind fun p => if (!isInt p) = true then some p else none) (by show 3 ≤ zLen; unfold zLen; omega) (fun j x hx Qy Qn r1 r2 => ?_) ?_
  · rw [hx] at r1 r2
    have r1 : ∀ y, (if (!isInt x) = true then some x else none) = some y → Qy y t := r1
    have r2 : (if (!isInt x) = true then some x else none) = none → Qn t := r2
    refine ⟨rfl, ?_⟩
    conv => whnf
    refine ⟨x, rfl, ((hps x (List.mem_of_getElem? hx)).pq (by omega)).tn, ?_⟩
    cases hi : isInt x with
    | true =>
      rw [hi] at r2
      exact r2 rfl
    | false =>
      rw [hi] at r1
      exact r1 _ rfl
  rw [show (List.range ([a, b, c] : List D).length).filterMap (fun i => (([a, b, c] : List D)[i]?).bind fun p => if (!isInt p) = true then some p else none) = ([a, b, c] : List D).filter fun p => !isInt p by rw [fm_range38, fm_fil38]]
  have hpl := plains_mem (l := ([a, b, c] : List D).filter fun p => !isInt p) fun d hdN => by
    have := bq_plain (hps d (List.mem_filter.mp hdN).1)
    exact ⟨this.1, by omega⟩
  refine ⟨⟨hpl.1, rfl, by show deeps _ + 1 ≤ 60; omega, by decide⟩, ?_⟩
  rw [ne_nil38]
  by_cases hall : ([a, b, c] : List D).filter (fun p => !isInt p) = []
  rotate_left
  · rw [decide_eq_false hall]
    exact kn
  rw [decide_eq_true hall]
  have hint : ∀ {p : D}, p ∈ [a, b, c] → ∃ i, p = .int i ∧ Sm s i := fun {p} hp => by
    have h1 := List.filter_eq_nil_iff.mp hall p hp
    rcases hps p hp with rfl | ⟨_, rfl⟩ | h | rfl | ⟨_, rfl, _⟩
    · exact absurd rfl h1
    · exact absurd rfl h1
    · exact h
    · exact absurd rfl h1
    · exact absurd rfl h1
  obtain ⟨n, rfl, sn⟩ := hint (p := a) (by simp)
  obtain ⟨m, rfl, sm⟩ := hint (p := b) (by simp)
  obtain ⟨f, rfl, sf⟩ := hint (p := c) (by simp)
  clear hint hall hpl
  have qn : BqS (s + 1) (.int n) := .inr (.inr (.inl ⟨n, rfl, sn.mono (by omega)⟩))
  have qm : BqS (s + 1) (.int m) := .inr (.inr (.inl ⟨m, rfl, sm.mono (by omega)⟩))
  have qf : BqS (s + 1) (.int f) := .inr (.inr (.inl ⟨f, rfl, sf.mono (by omega)⟩))
  have qbl : ∀ b : Bool, BqS (s + 1) (.bl b) := fun b => .inr (.inl ⟨b, rfl⟩)
  conv => whnf
  refine ⟨rfl, ?_⟩
  conv => whnf
  refine ⟨Nat.le_of_ble_eq_true rfl, ?_⟩
  conv => whnf
  refine ⟨⟨Nat.le_of_ble_eq_true rfl, by simp, by simp⟩, ?_⟩
  conv => whnf
  refine ⟨Nat.le_of_ble_eq_true rfl, ?_⟩
  conv => whnf
  refine ⟨Nat.le_of_ble_eq_true rfl, ?_⟩
  conv => whnf
  refine ⟨_, _, rfl, by simp, by simp, hp, by omega, fun i d' t' hdN' pt' => ?_⟩
  refine k d' t' ?_ (pt'.mono (by omega))
  have hmem := List.mem_of_getElem? hdN'
  have hcut : cutD [D.int n, D.int m, D.int f] none (some 2) = [.int n, .int m] := rfl
  simp only [List.cons_append, List.nil_append, List.mem_cons, List.not_mem_nil, or_false, hcut] at hmem
  rcases hmem with rfl | rfl | rfl | rfl | rfl | rfl | rfl | rfl | rfl | rfl | rfl | rfl | rfl | rfl
  · exact bx3 (.inr (.inr (.inl ⟨_, rfl, sm_one sn (by decide) (by decide)⟩))) qm qf
  · exact bx3 qn (.inr (.inr (.inl ⟨_, rfl, sm_one sm (by decide) (by decide)⟩))) qf
  · exact bx3 qn qm (.inr (.inr (.inl ⟨_, rfl, sm_one (d := -1) sf (by decide) (by decide)⟩)))
  · exact bx3 qn qf qm
  · refine .inr ⟨_, .inl rfl, by show 2 ≤ 4; decide, fun p hp => ?_⟩
    simp only [List.mem_cons, List.not_mem_nil, or_false] at hp
    rcases hp with rfl | rfl
    · exact qn
    · exact qm
  · refine .inr ⟨_, .inr rfl, by show 3 ≤ 4; decide, fun p hp => ?_⟩
    simp only [List.mem_cons, List.not_mem_nil, or_false] at hp
    rcases hp with rfl | rfl | rfl
    · exact qn
    · exact qm
    · exact qf
  · refine .inr ⟨_, .inl rfl, by show 4 ≤ 4; decide, fun p hp => ?_⟩
    simp only [List.mem_cons, List.not_mem_nil, or_false] at hp
    rcases hp with rfl | rfl | rfl | rfl
    · exact qn
    · exact qm
    · exact qf
    · exact .inr (.inr (.inl ⟨0, rfl, by unfold Sm; exact Nat.two_pow_pos _⟩))
  · exact bx3 qn (qbl _) qf
  · exact bx3 (qbl _) qm qf
  · exact .inl (.inl rfl)
  · exact bx3 qn (.inr (.inr (.inr (.inl rfl)))) qf
  · refine bx3 qn (.inr (.inr (.inl ⟨_, rfl, ?_⟩))) qf
    have : Sm s (0 - m) := by unfold Sm at *; omega
    exact this.mono (by omega)
  · exact bx3 (.inr (.inr (.inr (.inr ⟨n, rfl, sn.mono (by omega)⟩)))) qm qf
  · exact bx3 qn qm (.inl rfl)
theorem cut_all38 {R : List D} {lo hi : Option Int} : ∀ d ∈ cutD R lo hi, d ∈ R := by
  unfold cutD
  exact fun d hdN => List.mem_of_mem_drop (List.mem_of_mem_take hdN)
theorem cut_lo {l : List D} {x : Int} (h : 0 ≤ x) : (cutD l none (some x)).length ≤ x.toNat := by
  unfold cutD sIx
  simp only [List.length_take, List.length_drop]
  split <;> omega
theorem cut_hi {l : List D} {x : Int} (h : 0 ≤ x) : (cutD l (some x) none).length ≤ l.length - x.toNat := by
  unfold cutD sIx
  simp only [List.length_take, List.length_drop]
  split <;> omega
theorem cut_two38 {l : List D} {x y : Int} (h : 0 ≤ x) (h2 : x ≤ y) : (cutD l (some x) (some y)).length ≤ y.toNat - x.toNat ∧ (cutD l (some x) (some y)).length ≤ l.length - x.toNat := by
  unfold cutD sIx
  simp only [List.length_take, List.length_drop]
  split <;> split <;> omega
theorem d__law_bent_ok (as : List D) (t : Ts) (P : D → Ts → Prop) (h : sp__law_bent as t P) : d__law_bent (endsOf P) (start0 ["_law_tape_here", "_law_paper_here", "_law_at_here", "_law_way", "_law_two"] as) t := by
  obtain ⟨l, n0, s, rfl, hne, hl, hr, s3, s17, hp, hn, k⟩ := h
  have l0 : 0 < l.length := List.length_pos_iff.mpr hne
  have hch : ∀ {lo hi : Option Int}, ∀ d ∈ cutD l lo hi, BxS (s + 1) d := fun {lo hi} d hdN => (hr d (cut_all38 d hdN)).mono (by omega)
  conv => whnf
  refine ⟨_, _, rfl, by omega, (sm64 (by omega) (by omega)).mono (by decide), hp, by omega, fun x t1 x0 x1 pt1 => ?_⟩
  conv => whnf
  refine ⟨_, _, rfl, by first | omega | decide, (sm64 (by first | omega | decide) (by first | omega | decide)).mono (by decide), pt1, by omega, fun w t2 w0 w1 pt2 => ?_⟩
  conv => whnf
  have hx := List.getElem?_eq_getElem (show x.toNat < l.length by omega)
  generalize l[x.toNat] = a at hx
  have ra := hr a (List.mem_of_getElem? hx)
  have ax : atI l x = some a := atI_nat x0 hx
  have c1 := cut_lo (l := l) (x := x) x0
  have c2 := cut_hi (l := l) (x := x + 1) (by omega)
  have c3 := cut_lo (l := l) (x := x + 1) (by omega)
  have c4 := cut_hi (l := l) (x := x) x0
  have c5 := cut_two38 (l := l) (x := x) (y := x + 2) x0 (by omega)
  have c6 := cut_hi (l := l) (x := x + 2) (by omega)
  conv => whnf
  refine Br.mk (fun h0 => ?_) (fun h0 => ?_)
  · conv => whnf
    refine ⟨by unfold zLen; omega, ?_⟩
    conv => whnf
    refine k _ _ (fun d hdN => ?_) (by rw [List.length_append]; omega) (pt2.mono (by omega))
    rcases List.mem_append.mp hdN with h | h
    · exact hch d h
    · exact hch d h
  conv => whnf
  refine Br.mk (fun h1 => ?_) (fun h1 => ?_)
  · conv => whnf
    refine ⟨by unfold zLen; omega, ?_⟩
    conv => whnf
    refine k _ _ (fun d hdN => ?_) (by rw [List.length_append]; omega) (pt2.mono (by omega))
    rcases List.mem_append.mp hdN with h | h
    · exact hch d h
    · exact hch d h
  conv => whnf
  refine Br.mk (fun h2 => ?_) (fun h2 => ?_)
  · conv => whnf
    refine ⟨by rw [List.length_reverse]; unfold zLen; omega, ?_⟩
    conv => whnf
    refine ⟨by rw [List.length_append, List.length_reverse]; unfold zLen; omega, ?_⟩
    conv => whnf
    refine k _ _ (fun d hdN => ?_) (by rw [List.length_append, List.length_append, List.length_reverse]; omega) (pt2.mono (by omega))
    rcases List.mem_append.mp hdN with h | h
    · rcases List.mem_append.mp h with h | h
      · exact hch d h
      · exact hch d (List.mem_reverse.mp h)
    · exact hch d h
  conv => whnf
  refine ⟨a, ax, ?_⟩
  conv => whnf
  refine ⟨a, _, s, rfl, ra, s3, s17, pt2, by omega, fun d' t4 hdN' pt4 => ?_⟩
  conv => whnf
  refine ⟨by show _ + 1 ≤ zLen; unfold zLen; omega, ?_⟩
  conv => whnf
  refine ⟨by rw [List.length_append]; show _ + 1 + _ ≤ zLen; unfold zLen; omega, ?_⟩
  conv => whnf
  refine k _ _ (fun d hdN => ?_) (by rw [List.length_append, List.length_append]; show _ + 1 + _ ≤ _; omega) (pt4.mono (by omega))
  rcases List.mem_append.mp hdN with h | h
  · rcases List.mem_append.mp h with h | h
    · exact hch d h
    · rw [List.mem_singleton.mp h]; exact hdN'
  · exact hch d h
theorem bq_rp {s : Nat} {p : D} (h : BqS s p) (hs : s ≤ 1800) : plain p = true ∧ deep p ≤ 1 ∧ rsOk p ∧ rsz p ≤ 1926 := by
  obtain ⟨a1, a2⟩ := bq_plain h
  refine ⟨a1, a2, ?_⟩
  rcases h with rfl | ⟨_, rfl⟩ | ⟨i, rfl, hi⟩ | rfl | ⟨i, rfl, hi⟩
  · exact ⟨trivial, by show 5 ≤ 1926; decide⟩
  · exact ⟨trivial, by show 5 ≤ 1926; decide⟩
  · exact ⟨hi.mono (by omega), by show 1921 ≤ 1926; decide⟩
  · exact ⟨trivial, by show 15 ≤ 1926; decide⟩
  · exact ⟨⟨hi.mono (by omega), trivial⟩, by show 1926 ≤ 1926; decide⟩
theorem bqs_rp {s : Nat} (hs : s ≤ 1800) : ∀ {l : List D}, (∀ d ∈ l, BqS s d) → plains l = true ∧ deeps l ≤ 1 ∧ rssOk l ∧ rszs l ≤ 1928 * l.length
  | [], _ => ⟨rfl, Nat.zero_le _, trivial, Nat.zero_le _⟩
  | d :: l, h => by
    obtain ⟨a1, a2, a3, a4⟩ := bq_rp (h d (List.mem_cons_self ..)) hs
    obtain ⟨b1, b2, b3, b4⟩ := bqs_rp hs fun e he => h e (List.mem_cons_of_mem _ he)
    refine ⟨?_, ?_, ⟨a3, b3⟩, ?_⟩
    · show (plain d && plains l) = true
      rw [a1, b1]; rfl
    · show max (deep d) (deeps l) ≤ 1
      omega
    · show rsz d + 2 + rszs l ≤ 1928 * (l.length + 1)
      omega
theorem bx_rp {s : Nat} {d : D} (h : BxS s d) (hs : s ≤ 1800) : plain d = true ∧ deep d ≤ 2 ∧ rsOk d ∧ rsz d ≤ 7715 := by
  rcases h with h | ⟨ps, rfl | rfl, hl, hp⟩
  · obtain ⟨a1, a2, a3, a4⟩ := bq_rp h hs
    exact ⟨a1, by omega, a3, by omega⟩
  all_goals
    obtain ⟨b1, b2, b3, b4⟩ := bqs_rp hs hp
    refine ⟨b1, ?_, b3, ?_⟩
    · show deeps ps + 1 ≤ 2
      omega
    · show rszs ps + 3 ≤ 7715
      omega
theorem bxs_rp {s : Nat} (hs : s ≤ 1800) : ∀ {l : List D}, (∀ d ∈ l, BxS s d) → plains l = true ∧ deeps l ≤ 2 ∧ rssOk l ∧ rszs l ≤ 7717 * l.length
  | [], _ => ⟨rfl, Nat.zero_le _, trivial, Nat.zero_le _⟩
  | d :: l, h => by
    obtain ⟨a1, a2, a3, a4⟩ := bx_rp (h d (List.mem_cons_self ..)) hs
    obtain ⟨b1, b2, b3, b4⟩ := bxs_rp hs fun e he => h e (List.mem_cons_of_mem _ he)
    refine ⟨?_, ?_, ⟨a3, b3⟩, ?_⟩
    · show (plain d && plains l) = true
      rw [a1, b1]; rfl
    · show max (deep d) (deeps l) ≤ 2
      omega
    · show rsz d + 2 + rszs l ≤ 7717 * (l.length + 1)
      omega
theorem lis_rp {s : Nat} (hs : s ≤ 1800) {x : D} {l : List D} (hx : Lis x l) (hl : l.length ≤ 265) (h : ∀ d ∈ l, BxS s d) : RpOk x ∧ rsz x ≤ 7717 * l.length + 3 := by
  obtain ⟨b1, b2, b3, b4⟩ := bxs_rp hs h
  rcases hx with rfl | rfl
  all_goals
    refine ⟨⟨b1, ?_, b3, ?_⟩, ?_⟩
    · show deeps l + 1 ≤ 60
      omega
    · show rszs l + 3 ≤ zLen
      unfold zLen
      omega
    · show rszs l + 3 ≤ _
      omega
end Q
/-! MSum2 -/
namespace Q
open PySem
/-! ### sums by the laws' own signs -/
/-- digits, the last one first -/
def up (b : Int) (l : List Int) (x : Int) : Int := l.foldr (fun s a => a * b + s) x
end Q
/-! MSay2 -/
namespace Q
open PySem
end Q
/-! MTie -/
namespace Q
open PySem
/-! ### bounds and ties -/
structure Bnd where
  s : Int
  e : Int
  r : Int
  p : Option Int
def hd (b m : Int) : Int := (sigs b m).getD 0 0
def ex (b m : Int) : Int := (sigs b m).length - 1
def f0 : Bnd := ⟨0, 0, 0, none⟩
def f1 (b : Int) : Bnd := ⟨b - 1, -1, 0, none⟩
def topB (b : Int) (s : Sy) (i : Int) : Bnd := ⟨hd b (s.n - 1), ex b (s.n - 1), s.p - s.n - heap b (s.n - 1), some i⟩
def topF (b : Int) (s : Sy) (i : Int) : Option Bnd := if s.w = false ∧ 1 < s.n then some (topB b s i) else none
def sy0 : Sy := ⟨true, 1, 1⟩
def top (b : Int) (ss : List Sy) : List Bnd := f1 b :: (List.range ss.length).filterMap fun i => topF b (ss.getD i sy0) i
end Q
/-! MTie2 -/
namespace Q
open PySem
end Q
/-! MTie3 -/
namespace Q
open PySem
end Q
/-! MTieL -/
namespace Q
open PySem
/-! ### the law's own ties -/
end Q
/-! MTieM -/
namespace Q
open PySem
end Q
/-! MRp -/
namespace Q
open PySem
/-! ### sizes of what is told -/
/-- a whole number within M of nought -/
def In (M x : Int) : Prop := -M ≤ x ∧ x ≤ M
end Q
/-! M_k38 -/
namespace Q
open PySem
def notOwn : Sl → Prop
  | .own _ => False
  | _ => True
def Q38 (x : D) : Prop := T38 x ∧ (x = .dic [] [] ∨ RpOk x) ∧ ∀ l, Lis x l → RpOk (.lst l) ∧ ∀ d ∈ l, Rw38 d
theorem q38_lis {s : Nat} (hs : s ≤ 1800) {x : D} {l : List D} (hx : Lis x l) (hl : l.length ≤ 265) (h : ∀ d ∈ l, BxS s d) : Q38 x := by
  refine ⟨.inr (.inr (.inr (.inr (.inr ⟨l, hx, hl, fun d hdN => (h d hdN).rx hs⟩)))), .inr (lis_rp hs hx hl h).1, fun m hm => ?_⟩
  rw [← lis_inj38 hx hm]
  exact ⟨(lis_rp hs (.inl rfl) hl h).1, fun d hdN => (h d hdN).rw38⟩
theorem rp_bl (b : Bool) : RpOk (.bl b) := ⟨rfl, by show 0 ≤ 60; decide, trivial, by show 5 ≤ zLen; unfold zLen; decide⟩
def d_law (W : Cl) : DS := (dSeq (dFor (iRng1 (dC (.int 2))) (gName 2) (dSeq (dAsg (dCall sp__law_pick_2 [] (dCons (dVar 1) (dCons (dLst (dCons (dOp oAdd (dC (.int 2)) (dCall sp__law_draw_2 [] (dCons (dVar 1) (dCons (dC (.int 4)) dNil)))) (dCons (dOp oAdd (dC (.int 2)) (dCall sp__law_draw_2 [] (dCons (dVar 1) (dCons (dC (.int 29)) dNil)))) dNil))) dNil))) (gName 3)) (dSeq (dAsg (dCall sp__law_begun_3 [] (dCons (dVar 1) (dCons (dVar 3) (dCons (dCall sp__law_pick_2 [] (dCons (dVar 1) (dCons (dLst (dCons (dC (.int 4)) (dCons (dOp oPow (dC (.int 10)) (dC (.int 30))) dNil))) dNil))) dNil)))) (gName 4)) (dSeq (dPar 6 7 (dCons (dCall (sp_House___init__ W) [] (dCons (dVar 3) (dCons (dVar 4) dNil))) (dCons (dLc [16] (iRng1 (dOp oSub (dVar 3) (dC (.int 1)))) (gName 16) dYes (dCall sp__law_signed [] (dCons (dVar 1) (dCons (dC (.int 12)) dNil)))) dNil))) (dSeq (dFor (iRng1 (dC (.int 3))) (gName 5) (dSeq (dAsg (dCall sp__law_pick_2 [] (dCons (dVar 1) (dCons (dLst (dCons (dCall sp__law_draw_2 [] (dCons (dVar 1) (dCons (dC (.int 40)) dNil))) (dCons (dCall sp__law_draw_2 [] (dCons (dVar 1) (dCons (dC (.int 900)) dNil))) (dCons (dCall sp__law_many_2 [] (dCons (dVar 1) (dCons (dC (.int 6)) dNil))) (dCons (dCall sp__law_many_2 [] (dCons (dVar 1) (dCons (dC (.int 48)) dNil))) dNil))))) dNil))) (gName 8)) (dSeq (dAsg (dOp oAdd (dC (.int 1)) (dVar 8)) (gName 8)) (dSeq (dPar 13 14 (dCons (dCall sp__law_paper_2 [] (dCons (dVar 3) (dCons (dVar 7) (dCons (dCall sp__law_at_2 [] (dCons (dVar 3) (dCons (dVar 4) (dCons (dVar 8) dNil)))) dNil)))) (dCons (dCB bList (dCons (dVar 7) dNil)) dNil))) (dSeq (dAsgN 9 (dCall (sp_mark_paper_2 W) [] (dCons (dVar 6) (dCons (dCall sp__law_pick_2 [] (dCons (dVar 1) (dCons (dLst (dCons (dVar 7) (dCons (dCB bTuple (dCons (dVar 7) dNil)) dNil))) dNil))) (dCons (dVar 8) dNil))))) (dSeq (dIf (dOr (dB (dOp oNeX (dCB bReprE (dCons (dView 9) dNil)) (dCB bReprE (dCons (dVar 13) dNil)))) (dB (dOp oNotB (dLend 9 (dCall (sp_shows_mark W) [] (dCons (dVar 6) (dCons (dCB bTuple (dCons (dVar 7) dNil)) (dCons (dVar 8) (dCons (dVar 9) dNil)))))) (dC (.bl true))))) (dSeq (dRet (dC (.bl false))) dNext) dNext) (dSeq (dApp 9 (dC .non)) (dSeq (dFrz 9) (dSeq (dAsgN 10 (dLst (dCons (dVar 13) (dCons (dCB bTuple (dCons (dVar 13) dNil)) (dCons (dOp oAdd (dVar 13) (dLst (dCons (dOp oIx (dVar 13) (dUn oNeg (dC (.int 1)))) dNil))) (dCons (dLst dNil) (dCons (dC .non) (dCons (dC (.dic [] [])) (dCons (dC (.str "")) (dCons (dC (.int 0)) (dCons (dTup (dCons (dVar 13) dNil)) (dCons (dOp oIx (dVar 13) (dC (.int 0))) (dCons (dC (.bl true)) (dCons (dCB bReprS (dCons (dVar 13) dNil)) dNil)))))))))))))) (dSeq (dFor (iRng1 (dC (.int 6))) (gName 11) (dSeq (dAsg (dCall sp__law_bent [] (dCons (dVar 1) (dCons (dVar 13) dNil))) (gName 15)) (dSeq (dApp 10 (dIfE (dAnd (dB (dOp oNe (dVar 15) (dLst dNil))) (dB (dOp oEq (dCall sp__law_draw_2 [] (dCons (dVar 1) (dCons (dC (.int 2)) dNil))) (dC (.int 0))))) (dCall sp__law_bent [] (dCons (dVar 1) (dCons (dVar 15) dNil))) (dVar 15))) dNext))) (dSeq (dFrz 10) (dSeq (dFor (iSeq (dVar 10)) (gName 12) (dSeq (dPar 17 18 (dCons (dCB bReprE (dCons (dVar 12) dNil)) (dCons (dAndV (dIsi [.lst, .tup] (dVar 12)) (dOp oEqT (dCB bReprE (dCons (dCB bList (dCons (dVar 12) dNil)) dNil)) (dCB bReprE (dCons (dVar 13) dNil)))) dNil))) (dSeq (dIf (dOr (dB (dOp oNeX (dCB bReprE (dCons (dCall (sp_shows_mark W) [] (dCons (dVar 6) (dCons (dVar 7) (dCons (dVar 8) (dCons (dVar 12) dNil))))) dNil)) (dCB bReprE (dCons (dVar 18) dNil)))) (dB (dOp oNeX (dCB bReprE (dCons (dVar 12) dNil)) (dVar 17)))) (dSeq (dRet (dC (.bl false))) dNext) dNext) dNext))) (dSeq (dIf (dOr (dB (dOp oNe (dVar 7) (dVar 14))) (dB (dOp oNeX (dCB bReprE (dCons (dCall (sp_mark_paper_2 W) [] (dCons (dVar 6) (dCons (dVar 7) (dCons (dVar 8) dNil)))) dNil)) (dCB bReprE (dCons (dVar 13) dNil))))) (dSeq (dRet (dC (.bl false))) dNext) dNext) dNext))))))))))))) dNext))))) (dSeq (dRet (dC (.bl true))) dNext))
theorem k38_thing (W : Cl) (DD : DEnds) (b : Int) (bs ms : List Int) (p : Int) (R : List D) (x : D) (t : Ts) (s0 s1 s2 s4 s5 s9 s10 s11 s14 s15 s16 s17 s18 : Sl) (hh : Hou b bs) (hl : (ms.length : Int) = b - 1) (p1 : 1 ≤ p) (ps : Sm 7000 p) (hR : mpD b ms (sd b bs p) = R) (hRd : ∀ d ∈ R, Du38 d) (hRr : RpOk (.lst R)) (hx : Q38 x)
    (k : ∀ s17 s18 : D, DD.nx [s0, s1, s2, .val (.int b), s4, s5, .val (hD W b bs), .val (.lst (ms.map .int)), .val (.int p), s9, s10, s11, .val x, .val (.lst R), s14, s15, s16, .val s17, .val s18] t) :
    ((dSeq (dPar 17 18 (dCons (dCB bReprE (dCons (dVar 12) dNil)) (dCons (dAndV (dIsi [.lst, .tup] (dVar 12)) (dOp oEqT (dCB bReprE (dCons (dCB bList (dCons (dVar 12) dNil)) dNil)) (dCB bReprE (dCons (dVar 13) dNil)))) dNil))) (dSeq (dIf (dOr (dB (dOp oNeX (dCB bReprE (dCons (dCall (sp_shows_mark W) [] (dCons (dVar 6) (dCons (dVar 7) (dCons (dVar 8) (dCons (dVar 12) dNil))))) dNil)) (dCB bReprE (dCons (dVar 18) dNil)))) (dB (dOp oNeX (dCB bReprE (dCons (dVar 12) dNil)) (dVar 17)))) (dSeq (dRet (dC (.bl false))) dNext) dNext) dNext))) DD [s0, s1, s2, .val (.int b), s4, s5, .val (hD W b bs), .val (.lst (ms.map .int)), .val (.int p), s9, s10, s11, .val x, .val (.lst R), s14, s15, s16, s17, s18] t := by
  obtain ⟨hT, hrp, hli⟩ := hx
  have hT0 := hT
  rcases hT with rfl | ⟨_, rfl⟩ | ⟨_, rfl, _⟩ | ⟨_, rfl, _⟩ | rfl | ⟨l, hx, hll, hdN⟩
  iterate 4
    · have rp : RpOk _ := hrp.resolve_left (by intro z; cases z)
      conv => whnf
      refine ⟨rp, ?_⟩
      conv => whnf
      refine ⟨b, bs, p, .lst (ms.map .int), ms, _, rfl, hh, .inl rfl, hl, p1, ps, hT0, fun y => ?_, fun y => ?_⟩
      · rcases y with y | y <;> cases y
      · conv => whnf
        refine ⟨rp_bl false, ?_⟩
        conv => whnf
        refine ⟨rp_bl false, fun kk hk => ?_⟩
        rw [hk rfl]
        conv => whnf
        refine ⟨rp, fun kk hk => ?_⟩
        rw [hk rfl]
        exact k _ _
  · conv => whnf
    refine ⟨b, bs, p, .lst (ms.map .int), ms, _, rfl, hh, .inl rfl, hl, p1, ps, hT0, fun y => ?_, fun y => ?_⟩
    · rcases y with y | y <;> cases y
    · conv => whnf
      refine ⟨rp_bl false, ?_⟩
      conv => whnf
      refine ⟨rp_bl false, fun kk hk => ?_⟩
      rw [hk rfl]
      exact k _ _
  · obtain ⟨rpl, hrw⟩ := hli l hx
    have iff : IsMp b ms (sd b bs p) x ↔ l = R := by
      rw [← hR]
      constructor
      · intro z
        exact lis_inj38 hx z
      · intro z
        unfold IsMp
        rw [← z]
        exact hx
    rcases hx with rfl | rfl
    all_goals
      have rp : RpOk _ := hrp.resolve_left (by intro z; cases z)
      conv => whnf
      refine ⟨rp, ?_⟩
      conv => whnf
      refine ⟨rpl, ?_⟩
      conv => whnf
      refine ⟨hRr, ⟨hrw, hRd⟩, fun kk hkk => ?_⟩
      conv => whnf
      refine ⟨b, bs, p, .lst (ms.map .int), ms, _, rfl, hh, .inl rfl, hl, p1, ps, hT0, fun y => ?_, fun y => ?_⟩
      · have e := hkk.mpr (iff.mp y)
        subst e
        conv => whnf
        refine ⟨rp_bl true, ?_⟩
        conv => whnf
        refine ⟨rp_bl true, fun kk hk => ?_⟩
        rw [hk rfl]
        conv => whnf
        refine ⟨rp, fun kk hk => ?_⟩
        rw [hk rfl]
        exact k _ _
      · have e : kk = false := by
          cases kk with
          | false => rfl
          | true => exact absurd (iff.mpr (hkk.mp rfl)) y
        subst e
        conv => whnf
        refine ⟨rp_bl false, ?_⟩
        conv => whnf
        refine ⟨rp_bl false, fun kk hk => ?_⟩
        rw [hk rfl]
        conv => whnf
        refine ⟨rp, fun kk hk => ?_⟩
        rw [hk rfl]
        exact k _ _
theorem oo_not {i k : Nat} {s : Sl} {e : En} (h : notOwn s) (r : onlyOwn i (k + 1) e = true) : onlyOwn i k (s :: e) = true := by
  cases s with
  | own _ => exact h.elim
  | no => exact r
  | val d => exact r
theorem oo_own {i : Nat} {d : D} {e : En} (r : onlyOwn i (i + 1) e = true) : onlyOwn i i (.own d :: e) = true := by
  show ((i == i) && onlyOwn i (i + 1) e) = true
  rw [r]
  simp
theorem mp_bx {b n : Int} {ms : List Int} {c x : Nat} (h2 : 2 ≤ b) (h30 : b ≤ 30) (hms : HSm x ms) (n1 : 1 ≤ n) (hs : Sm c n) {s : Nat} (hx : x + c + 9 ≤ s) : ∀ d ∈ mpD b ms n, BxS s d := fun d hd => by
  obtain ⟨m, hm, rfl⟩ := List.mem_map.mp hd
  obtain ⟨m1, m2⟩ := hdN_mem h2 n.toNat n (Nat.le_refl _) n1 m hm
  have ms1 : Sm c m := Sm.of (by omega) m2 hs
  exact bx3 (.inr (.inr (.inl ⟨_, rfl, ms1.mono (by omega)⟩))) (.inr (.inr (.inl ⟨_, rfl, (Mk_sm h2 h30 m1 hms ms1).mono (by omega)⟩))) (.inr (.inr (.inl ⟨_, rfl, (Mk_sm h2 h30 (by omega) hms (sm_next (by omega) ms1)).mono (by omega)⟩)))
theorem mp_du {b n : Int} {ms : List Int} : ∀ d ∈ mpD b ms n, Du38 d := fun d hd => by
  obtain ⟨m, hm, rfl⟩ := List.mem_map.mp hd
  exact ⟨_, _, _, rfl⟩
theorem mp_hd {b n : Int} {ms : List Int} : ∃ tt R', mpD b ms n = D.tup tt :: R' := by
  obtain ⟨r, hr⟩ := hdN_head (b := b) (n := n)
  unfold mpD
  rw [hr]
  exact ⟨_, _, rfl⟩
theorem q38_one {s : Nat} (hs : s ≤ 1800) {d : D} (h : BxS s d) (hd : Du38 d) : Q38 d := by
  obtain ⟨x, y, z, rfl⟩ := hd
  rcases h with h | ⟨ps, h, hl, hp⟩
  · rcases h with h | ⟨_, h⟩ | ⟨_, h, _⟩ | h | ⟨_, h, _⟩ <;> cases h
  · refine q38_lis (l := ps) hs h.symm (by omega) fun d hd => .inl ((hp d hd))
theorem at_last38 {R : List D} (h : R ≠ []) : ∃ la, atI R (-1) = some la ∧ la ∈ R := by
  have hl : 0 < R.length := List.length_pos_iff.mpr h
  have e : atI R (-1) = R[R.length - 1]? := by
    unfold atI
    rw [if_neg (by decide), if_pos (by omega)]
    congr 1
    omega
  refine ⟨R[R.length - 1], ?_, List.getElem_mem ..⟩
  rw [e, List.getElem?_eq_getElem (by omega)]
theorem at0_38 {x : D} {R : List D} : atI (x :: R) 0 = some x := by
  unfold atI
  rw [if_pos (by decide), if_pos (by rw [List.length_cons]; omega)]
  rfl
theorem q38_at {x : D} (h : T38 x) (r : RpOk x) (n : ∀ l, ¬ Lis x l) : Q38 x := ⟨h, .inr r, fun l hl => (n l hl).elim⟩
theorem rp_str38 {ss : Str} (h1 : plain (.str ss) = true) (h2 : ss.length ≤ 1570000) : RpOk (.str ss) := ⟨h1, by show 0 ≤ 60; decide, trivial, by show 10 * ss.length + 5 ≤ zLen; unfold zLen; omega⟩
theorem q38_str {ss : Str} (h1 : plain (.str ss) = true) (h2 : ss.length ≤ 1570000) : Q38 (.str ss) := q38_at (.inr (.inr (.inr (.inl ⟨_, rfl, h1, h2⟩)))) (rp_str38 h1 h2) fun l hl => by rcases hl with h | h <;> cases h
theorem q38_tl {R : List D} (Rl : R.length ≤ 183) (RB : ∀ d ∈ R, BxS 260 d) (Rdu : ∀ d ∈ R, Du38 d) : Q38 (.tup [.lst R]) := by
  obtain ⟨a1, a2, a3, a4⟩ := bxs_rp (by decide) RB
  have hx : Rx (.lst R) := .inr (.inr ⟨R, rfl, by omega, fun d hd => by
    obtain ⟨a, b, c, rfl⟩ := Rdu d hd
    obtain ⟨e1, e2, e3⟩ := rx_sm (r := ⟨a, b, c⟩) ((RB _ hd).rx (by decide))
    exact ⟨⟨a, b, c⟩, rfl, e1, e2, e3⟩⟩)
  have rp : plains [D.lst R] = true ∧ deeps [D.lst R] ≤ 3 ∧ rssOk [D.lst R] ∧ rszs [D.lst R] ≤ 7717 * R.length + 5 := by
    refine ⟨?_, ?_, ⟨a3, trivial⟩, ?_⟩
    · show (plains R && true) = true
      rw [a1]; rfl
    · show max (deeps R + 1) 0 ≤ 3
      omega
    · show rszs R + 3 + 2 + 0 ≤ _
      omega
  have rpl : ∀ x, Lis x [D.lst R] → RpOk x := fun x hx => by
    rcases hx with rfl | rfl
    all_goals
      refine ⟨rp.1, ?_, rp.2.2.1, ?_⟩
      · show deeps [D.lst R] + 1 ≤ 60
        omega
      · show rszs [D.lst R] + 3 ≤ zLen
        unfold zLen
        omega
  refine ⟨.inr (.inr (.inr (.inr (.inr ⟨_, .inr rfl, by show 1 ≤ 265; decide, fun d hd => by rw [List.mem_singleton.mp hd]; exact hx⟩)))), .inr (rpl _ (.inr rfl)), fun m hm => ?_⟩
  rw [← lis_inj38 (.inr rfl) hm]
  exact ⟨rpl _ (.inl rfl), fun d hd => by rw [List.mem_singleton.mp hd]; exact .inr (.inr ⟨_, rfl⟩)⟩
theorem things38 {R R' tt : List D} {la : D} {ss : Str} (hR : R = .tup tt :: R') (Rl : R.length ≤ 183) (RB : ∀ d ∈ R, BxS 260 d) (Rdu : ∀ d ∈ R, Du38 d) (hla : la ∈ R) (hs1 : plain (.str ss) = true) (hsl : ss.length ≤ 1570000) :
    ∀ x ∈ [D.lst R, .tup R, .lst (R ++ [la]), .lst [], .non, .dic [] [], .str "", .int 0, .tup [.lst R], .tup tt, .bl true, .str ss], Q38 x := by
  intro x hx
  simp only [List.mem_cons, List.not_mem_nil, or_false] at hx
  rcases hx with rfl | rfl | rfl | rfl | rfl | rfl | rfl | rfl | rfl | rfl | rfl | rfl
  · exact q38_lis (by decide) (.inl rfl) (by omega) RB
  · exact q38_lis (by decide) (.inr rfl) (by omega) RB
  · refine q38_lis (s := 260) (by decide) (.inl rfl) (by rw [List.length_append]; show R.length + 1 ≤ 265; omega) fun d hd => ?_
    rcases List.mem_append.mp hd with h | h
    · exact RB d h
    · rw [List.mem_singleton.mp h]; exact RB _ hla
  · exact q38_lis (s := 260) (by decide) (.inl rfl) (by decide) fun d hd => by cases hd
  · exact q38_at (.inl rfl) ⟨rfl, by show 0 ≤ 60; decide, trivial, by show 5 ≤ zLen; unfold zLen; decide⟩ fun l hl => by rcases hl with h | h <;> cases h
  · exact ⟨.inr (.inr (.inr (.inr (.inl rfl)))), .inl rfl, fun l hl => by rcases hl with h | h <;> cases h⟩
  · exact q38_str (by decide +kernel) (by decide +kernel)
  · exact q38_at (.inr (.inr (.inl ⟨_, rfl, by unfold Sm; decide +kernel⟩))) (rp_int (by unfold Sm; decide +kernel)) fun l hl => by rcases hl with h | h <;> cases h
  · exact q38_tl Rl RB Rdu
  · exact q38_one (by decide) (RB _ (by rw [hR]; exact List.mem_cons_self ..)) (Rdu _ (by rw [hR]; exact List.mem_cons_self ..))
  · exact q38_at (.inr (.inl ⟨_, rfl⟩)) (rp_bl true) fun l hl => by rcases hl with h | h <;> cases h
  · exact q38_str hs1 hsl
abbrev Nlaw : List Str := ["_law_script", "_law_tape_here", "_law_turn", "_law_base", "_law_begun_here", "_law_bout", "_law_house", "_law_marks", "_law_spot", "_law_told", "_law_things", "_law_more", "_law_thing", "_law_due", "_law_kept", "_law_bent_here", "_law_k", "_law_prior", "_law_is_due"]
theorem law_run (W : Cl) (ns : List Int) (t : Ts) (hp : Pt 0 t) : d_law W (endsOf fun d _ => d = .bl true) ((start0 Nlaw [.scr ns]).set 1 (.val .pen)) t := by
  conv => whnf
  repeat (refine And.intro (by first | omega | rfl | exact MulOk.r (by decide) (by decide) | exact MulOk.l (by omega) (by omega) | exact MulOk.r (by omega) (by omega) | exact DivOk.s (by omega) (by omega) | exact PowOk.s (by decide) (by decide) (by decide) (by decide) | (unfold zLen; omega) | (simp only [List.length_append, List.length_map, List.length_cons, List.length_nil]; unfold zLen; omega)) ?_; conv => whnf)
  refine ⟨fun i e m => Pt (3000 * i) m ∧ ∃ s2 s3 s4 s5 s6 s7 s8 s9 s10 s11 s12 s13 s14 s15 s16 s17 s18, (notOwn s10 ∧ notOwn s11 ∧ notOwn s12 ∧ notOwn s15 ∧ notOwn s16 ∧ notOwn s17 ∧ notOwn s18) ∧ e = [.val (.scr ns), .val .pen, s2, s3, s4, s5, s6, s7, s8, s9, s10, s11, s12, s13, s14, s15, s16, s17, s18], ⟨by simpa using hp, .no, .no, .no, .no, .no, .no, .no, .no, .no, .no, .no, .no, .no, .no, .no, .no, .no, ⟨trivial, trivial, trivial, trivial, trivial, trivial, trivial⟩, rfl⟩, fun i x e m hx hI => ?_, fun e m hI => ?_⟩
  · obtain ⟨pm, s2, s3, s4, s5, s6, s7, s8, s9, s10, s11, s12, s13, s14, s15, s16, s17, s18, nos, rfl⟩ := hI
    obtain ⟨hi, rfl⟩ := rng_get hx
    have hi : i < 2 := by omega
    clear hx
    conv => whnf
    refine ⟨_, _, rfl, by first | omega | decide, (sm64 (by first | omega | decide) (by first | omega | decide)).mono (by decide), pm, by omega, fun u t1 u0 u1 pt1 => ?_⟩
    conv => whnf
    refine ⟨_, _, rfl, by first | omega | decide, (sm64 (by first | omega | decide) (by first | omega | decide)).mono (by decide), pt1, by omega, fun v t2 v0 v1 pt2 => ?_⟩
    conv => whnf
    refine ⟨_, [.int (2 + u), .int (2 + v)], rfl, by simp, by simp, pt2, by omega, fun i0 d0 t3 hi0 pt3 => ?_⟩
    obtain ⟨b, rfl, h2, h30⟩ := pick_int (lo := 2) (hi := 30) (l := [2 + u, 2 + v]) hi0 (by intro n hn; simp at hn; omega)
    clear hi0
    conv => whnf
    refine ⟨PowOk.s (by decide) (by decide) (by decide) (by decide), ?_⟩
    conv => whnf
    refine ⟨_, [.int 4, .int (10 ^ Int.toNat 30)], rfl, by simp, by simp, pt3, by omega, fun i1 d1 t4 hi1 pt4 => ?_⟩
    obtain ⟨most, rfl, m1, mst⟩ := pick_P (Pr := fun z => 1 ≤ z ∧ Sm 200 z) (l := [4, 10 ^ Int.toNat 30]) hi1 (by
      intro n hn
      simp only [List.mem_cons, List.not_mem_nil, or_false] at hn
      rcases hn with rfl | rfl <;> exact ⟨by decide, Sm.lit (by decide)⟩)
    clear hi1
    refine ⟨b, most, _, rfl, h2, h30, m1, mst.mono (by decide), pt4, by omega, fun bs t5 hh hbb pt5 => ?_⟩
    clear hbb
    conv => whnf
    refine ⟨b, bs, .inl rfl, hh, ?_⟩
    conv => whnf
    refine ⟨by omega, ?_⟩
    conv => whnf
    refine lc_signed (c := (b - 1).toNat) (f := 12) (v := 16) (by decide) (by rfl) (by rw [rng_len]) (by decide) (by omega) pt5 (by omega) fun ms t6 hfl hms pt6 => ?_
    have hml : (ms.length : Int) = b - 1 := by omega
    have pt6 : Pt (3000 * i + 700) t6 := pt6.mono (by omega)
    conv => whnf
    refine ⟨by decide, ?_⟩
    conv => whnf
    refine ⟨fun j e m => Pt (3000 * i + 700 + 600 * j) m ∧ ∃ s5 s8 s9 s10 s11 s12 s13 s14 s15 s16 s17 s18, (notOwn s10 ∧ notOwn s11 ∧ notOwn s12 ∧ notOwn s15 ∧ notOwn s16 ∧ notOwn s17 ∧ notOwn s18) ∧ e = [.val (.scr ns), .val .pen, .val (.int (0 + i)), .val (.int b), .val (.lst (bs.map .int)), s5, .val (hD W b bs), .val (.lst (ms.map .int)), s8, s9, s10, s11, s12, s13, s14, s15, s16, s17, s18], ⟨pt6.mono (by omega), _, _, _, _, _, _, _, _, _, _, _, _, nos, rfl⟩, fun j x e m hx hI => ?_, fun e m hI => ?_⟩
    · clear nos
      obtain ⟨pm, s5, s8, s9, s10, s11, s12, s13, s14, s15, s16, s17, s18, nos, rfl⟩ := hI
      obtain ⟨hj, rfl⟩ := rng_get hx
      have hj : j < 3 := by omega
      clear hx
      conv => whnf
      refine ⟨_, _, rfl, by first | omega | decide, (sm64 (by first | omega | decide) (by first | omega | decide)).mono (by decide), pm, by omega, fun z1 t7 z10 z11 pt7 => ?_⟩
      conv => whnf
      refine ⟨_, _, rfl, by first | omega | decide, (sm64 (by first | omega | decide) (by first | omega | decide)).mono (by decide), pt7, by omega, fun z2 t8 z20 z21 pt8 => ?_⟩
      conv => whnf
      refine ⟨_, 6, rfl, by decide, pt8, by omega, fun z3 t9 z30 z31 pt9 => ?_⟩
      conv => whnf
      refine ⟨_, 48, rfl, by decide, pt9, by omega, fun z4 t10 z40 z41 pt10 => ?_⟩
      conv => whnf
      refine ⟨_, [.int z1, .int z2, .int z3, .int z4], rfl, by simp, by simp, pt10, by omega, fun i2 d2 t11 hi2 pt11 => ?_⟩
      obtain ⟨sp, rfl, sp0, sps⟩ := pick_P (Pr := fun z => 0 ≤ z ∧ Sm 181 z) (l := [z1, z2, z3, z4]) hi2 (by
        intro n hn
        simp only [List.mem_cons, List.not_mem_nil, or_false] at hn
        rcases hn with rfl | rfl | rfl | rfl
        · exact ⟨by omega, (sm64 (by omega) (by omega)).mono (by decide)⟩
        · exact ⟨by omega, (sm64 (by omega) (by omega)).mono (by decide)⟩
        · exact ⟨by omega, (sm_mil (f := 2) (by omega) (by have e : ((6 : Nat) / 6 + 1) = 2 := rfl
                                                           rw [e] at z31
                                                           omega)).mono (by decide)⟩
        · exact ⟨by omega, (sm_mil (f := 9) (by omega) (by have e : ((48 : Nat) / 6 + 1) = 9 := rfl
                                                           rw [e] at z41
                                                           omega)).mono (by decide)⟩)
      clear hi2
      conv => whnf
      obtain ⟨p, hpe⟩ : ∃ p, 1 + sp = p := ⟨_, rfl⟩
      have p1 : 1 ≤ p := by omega
      have ps : Sm 182 p := by rw [← hpe, Int.add_comm]; exact sm_next sp0 sps
      rw [hpe]
      refine ⟨b, bs, p, rfl, hh, p1, ps.mono (by decide), ?_⟩
      have hn1 := sd_pos hh p
      have hns : Sm 182 (sd b bs p) := sd_sm hh p1 ps
      conv => whnf
      refine ⟨b, _, ms, rfl, hml, h2, h30, fun x hx => (hms x hx).mono (by decide), hn1, hns.mono (by decide), ?_⟩
      obtain ⟨R, hR⟩ : ∃ R, mpD b ms (sd b bs p) = R := ⟨_, rfl⟩
      have Rl : R.length ≤ 183 := by rw [← hR]; exact mp_len h2 hn1 hns
      have Rne : R ≠ [] := by rw [← hR]; exact mp_ne
      have RB : ∀ d ∈ R, BxS 260 d := by rw [← hR]; exact mp_bx h2 h30 hms hn1 hns (by decide)
      have Rdu : ∀ d ∈ R, Du38 d := by rw [← hR]; exact mp_du
      obtain ⟨tt, R', hRt⟩ : ∃ tt R', R = D.tup tt :: R' := by rw [← hR]; exact mp_hd
      have rpR := (lis_rp (by decide) (.inl (rfl : (.lst R : D) = .lst R)) (by omega) RB).1
      rw [hR]
      subst hRt
      have tR : T38 (.lst (.tup tt :: R')) := .inr (.inr (.inr (.inr (.inr ⟨_, .inl rfl, by omega, fun d hd => (RB d hd).rx (by decide)⟩))))
      conv => whnf
      refine ⟨_, [.lst (ms.map .int), .tup (ms.map .int)], rfl, by simp, by simp, pt11, by omega, fun i3 d3 t12 hi3 pt12 => ?_⟩
      have hrow : Row d3 ms := by
        have := List.mem_of_getElem? hi3
        simp only [List.mem_cons, List.not_mem_nil, or_false] at this
        exact this
      clear hi3
      refine ⟨b, bs, p, d3, ms, rfl, hh, hrow, hml, fun x hx => (hms x hx).mono (by decide), p1, ps.mono (by decide), ?_⟩
      rw [hR]
      obtain ⟨n10, n11, n12, n15, n16, n17, n18⟩ := nos
      conv => whnf
      refine ⟨rpR, ?_⟩
      conv => whnf
      refine ⟨rpR, ?_⟩
      conv => whnf
      refine fun k hk => ?_
      rw [hk rfl]
      conv => whnf
      refine ⟨by repeat (first | exact rfl | refine oo_own ?_ | refine oo_not (by first | exact trivial | assumption) ?_), ?_⟩
      conv => whnf
      refine ⟨b, bs, p, .tup (ms.map .int), ms, _, rfl, hh, .inr rfl, hml, p1, ps.mono (by decide), tR, fun y => ?_, fun y => absurd (by rw [IsMp, hR]; exact .inl rfl) y⟩
      conv => whnf
      refine ⟨by unfold zLen; omega, ?_⟩
      conv => whnf
      obtain ⟨la, hla, hlm⟩ := at_last38 (R := .tup tt :: R') Rne
      refine ⟨_, hla, ?_⟩
      conv => whnf
      refine ⟨by rw [List.length_cons] at Rl; show R'.length + 1 + 1 ≤ zLen; unfold zLen; omega, ?_⟩
      conv => whnf
      refine ⟨_, at0_38, ?_⟩
      conv => whnf
      refine ⟨⟨Rdu, rpR⟩, ?_⟩
      conv => whnf
      refine fun ss hs1 hs2 => ?_
      have hsl : ss.length ≤ 1570000 := by
        have := (lis_rp (by decide) (.inl (rfl : (.lst (.tup tt :: R') : D) = .lst (.tup tt :: R'))) (by omega) RB).2
        omega
      have th0 := things38 rfl Rl RB Rdu hlm hs1 hsl
      conv => whnf
      refine ⟨by decide, ?_⟩
      conv => whnf
      have Rlc := Rl
      generalize hRR : (D.tup tt :: R') = R at Rlc
      have th0 : ∀ x ∈ [D.lst R, .tup R, .lst (R ++ [la]), .lst [], .non, .dic [] [], .str "", .int 0, .tup [.lst R], .tup tt, .bl true, .str ss], Q38 x := by rw [← hRR]; exact th0
      rw [hRR] at rpR Rne RB Rdu hR hlm tR
      clear hla
      clear hRR hs1 hs2 hsl
      have hT0 : ([D.lst R, .tup R, .lst (R ++ [la]), .lst [], .non, .dic [] [], .str "", .int 0, .tup [.lst R], .tup tt, .bl true, .str ss]).length ≤ 12 := Nat.le_of_ble_eq_true rfl
      generalize [D.lst R, .tup R, .lst (R ++ [la]), .lst [], .non, .dic [] [], .str "", .int 0, .tup [.lst R], .tup tt, .bl true, .str ss] = T0 at th0 hT0
      refine ⟨fun k e m => Pt (3000 * i + 700 + 600 * j + 30 + 20 * k) m ∧ ∃ TH s11 s15, (∀ x ∈ TH, Q38 x) ∧ TH.length ≤ 12 + k ∧ notOwn s11 ∧ notOwn s15 ∧ e = [.val (.scr ns), .val .pen, .val (.int (0 + i)), .val (.int b), .val (.lst (bs.map .int)), .val (.int (0 + j)), .val (hD W b bs), .val (.lst (ms.map .int)), .val (.int p), .val (.lst (R ++ [.non])), .own (.lst TH), s11, s12, .val (.lst R), .val (.lst (ms.map .int)), s15, s16, s17, s18], ⟨pt12.mono (by omega), T0, _, _, th0, by omega, n11, n15, rfl⟩, fun k x e m hx hI => ?_, fun e m hI => ?_⟩
      · clear n11 n15
        obtain ⟨pm, TH, s11, s15, hTH, hTl, n11, n15, rfl⟩ := hI
        obtain ⟨hk, rfl⟩ := rng_get hx
        have hk : k < 6 := by omega
        conv => whnf
        refine ⟨R, _, 260, rfl, Rne, by omega, RB, by decide, by decide, pm, by omega, fun M t13 hM hMl pt13 => ?_⟩
        conv => whnf
        obtain ⟨u1, u2, _, _⟩ := bxs_rp (by decide) hM
        refine ⟨⟨u1, rfl, by show deeps M + 1 ≤ 60; omega, by decide⟩, ?_⟩
        conv => whnf
        rw [ne_nil38]
        have add : ∀ {y : D}, Q38 y → ∀ x ∈ TH ++ [y], Q38 x := fun {y} h2 x hx => by
          rcases List.mem_append.mp hx with h | h
          · exact hTH x h
          · rw [List.mem_singleton.mp h]; exact h2
        have addl : ∀ {y : D}, (TH ++ [y]).length ≤ 12 + (k + 1) := fun {y} => by rw [List.length_append]; show TH.length + 1 ≤ _; omega
        have qM : Q38 (.lst M) := q38_lis (s := 261) (by decide) (.inl rfl) (by omega) hM
        by_cases hMn : M = []
        · rw [decide_eq_true hMn]
          conv => whnf
          refine ⟨by unfold zLen; omega, ?_⟩
          conv => whnf
          exact ⟨pt13.mono (by omega), _, .val (.int (0 + k)), .val (.lst M), add qM, addl, trivial, trivial, rfl⟩
        · rw [decide_eq_false hMn]
          conv => whnf
          refine ⟨_, _, rfl, by first | omega | decide, (sm64 (by first | omega | decide) (by first | omega | decide)).mono (by decide), pt13, by omega, fun v2 t14 v20 v21 pt14 => ?_⟩
          conv => whnf
          refine Br.mk (fun hv => ?_) (fun hv => ?_)
          · conv => whnf
            refine ⟨M, _, 261, rfl, hMn, by omega, hM, by decide, by decide, pt14, by omega, fun M2 t15 hM2 hM2l pt15 => ?_⟩
            conv => whnf
            refine ⟨by unfold zLen; omega, ?_⟩
            conv => whnf
            exact ⟨pt15.mono (by omega), _, .val (.int (0 + k)), .val (.lst M), add (q38_lis (s := 262) (by decide) (.inl rfl) (by omega) hM2), addl, trivial, trivial, rfl⟩
          · conv => whnf
            refine ⟨by unfold zLen; omega, ?_⟩
            conv => whnf
            exact ⟨pt14.mono (by omega), _, .val (.int (0 + k)), .val (.lst M), add qM, addl, trivial, trivial, rfl⟩
      · clear n11 n15
        obtain ⟨pm, TH, s11, s15, hTH, hTl, n11, n15, rfl⟩ := hI
        conv => whnf
        refine ⟨fun k e m => m = _ ∧ ∃ s12 s17 s18, notOwn s12 ∧ notOwn s17 ∧ notOwn s18 ∧ e = [.val (.scr ns), .val .pen, .val (.int (0 + i)), .val (.int b), .val (.lst (bs.map .int)), .val (.int (0 + j)), .val (hD W b bs), .val (.lst (ms.map .int)), .val (.int p), .val (.lst (R ++ [.non])), .val (.lst TH), s11, s12, .val (.lst R), .val (.lst (ms.map .int)), s15, s16, s17, s18], ⟨rfl, s12, s17, s18, n12, n17, n18, rfl⟩, fun k x e m1 hx hI => ?_, fun e m1 hI => ?_⟩
        · obtain ⟨rfl, s12, s17, s18, _, _, _, rfl⟩ := hI
          exact k38_thing W _ b bs ms p R x m1 _ _ _ _ _ _ _ _ _ _ _ _ _ hh hml p1 (ps.mono (by decide)) hR Rdu rpR (hTH x (List.mem_of_getElem? hx)) fun s17 s18 => ⟨rfl, .val x, .val s17, .val s18, trivial, trivial, trivial, rfl⟩
        · clear n12 n17 n18
          obtain ⟨rfl, s12, s17, s18, n12, n17, n18, rfl⟩ := hI
          conv => whnf
          refine ⟨eqok_ints _ _, ?_⟩
          conv => whnf
          refine br_nl (rfl) ?_
          conv => whnf
          refine ⟨b, bs, p, .lst (ms.map .int), ms, rfl, hh, .inl rfl, hml, fun x hx => (hms x hx).mono (by decide), p1, ps.mono (by decide), ?_⟩
          rw [hR]
          conv => whnf
          refine ⟨rpR, ?_⟩
          conv => whnf
          refine ⟨rpR, ?_⟩
          conv => whnf
          refine fun k hk => ?_
          rw [hk rfl]
          conv => whnf
          exact ⟨pm.mono (by rw [rng_len]; omega), _, _, _, .val (.lst TH), _, _, _, _, _, _, _, _, ⟨trivial, n11, n12, n15, n16, n17, n18⟩, rfl⟩
    · obtain ⟨pm, s5, s8, s9, s10, s11, s12, s13, s14, s15, s16, s17, s18, nos, rfl⟩ := hI
      exact ⟨pm.mono (by rw [rng_len]; omega), _, _, _, _, _, _, _, _, _, _, _, _, _, _, _, _, _, nos, rfl⟩
  · obtain ⟨pm, s2, s3, s4, s5, s6, s7, s8, s9, s10, s11, s12, s13, s14, s15, s16, s17, s18, nos, rfl⟩ := hI
    rfl
theorem d_law_ok (W : Cl) (ns : List Int) (hl : ns.length ≤ 63) : (dCall sp__law_tape [] (dCons (dVar 0) dNil)) (start0 Nlaw [.scr ns]) ⟨[], 0, 0, false, noObs⟩ (fun d _ => ∃ cs : List Int, d = .dic (if true = true then [.inr "cells", .inr "turn", .inr "rest"] else [.inr "cells", .inr "at", .inr "left"]) [.lst (cs.map .int), .int 0, .int 0] ∧ cs.length ≤ 63 ∧ d_law W (endsOf fun d _ => d = .bl true) ((start0 Nlaw [.scr ns]).set 1 (.val .pen)) ⟨cs, 0, 0, true, noObs⟩) :=
  ⟨ns, rfl, hl, fun cs hc => ⟨cs, rfl, hc, law_run W ns _ (Pt.zero hc)⟩⟩
end Q
/-! QX1 -/
namespace Q
open PySem L2 PySem.Spec PyProof.Rows
/-! ### own exception classes over RuntimeError whose __init__ calls RuntimeError.__init__(self, text) alone -/
end Q
/-! QX2 -/
namespace Q
open PySem L2 PySem.Spec PyProof.Rows
/-! ### defs that may raise -/
/-! ### try: return f(..) / except X as e: w = e, then behind it the exception that w holds -/
end Q
/-! QX15 -/
namespace Q
open PySem L2 PySem.Spec PyProof.Rows
/-! ### own exception classes over a base B whose __init__ calls B.__init__(self, text) and keeps one field -/
end Q
namespace PySem
end PySem
namespace Q
open PySem L2 PySem.Spec PyProof.Rows
end Q
/-! QX16 -/
namespace Q
open PySem L2 PySem.Spec PyProof.Rows
/-! ### reading a field of the exception that a name holds -/
end Q
/-! QX17 -/
namespace Q
open PySem L2 PySem.Spec PyProof.Rows LamX
/-! ### the state when a lambda is made -/
end Q
/-! QX18 -/
namespace Q
open PySem L2 PySem.Spec PyProof.Rows LamX
end Q
/-! QX19 -/
namespace Q
open PySem L2 PySem.Spec PyProof.Rows LamX
/-- the base bears the table at P, whose code objects' name is q -/
structure TabOf (B : Bs) (P : Addr) (q : Str) : Prop where
  m : (P, q) ∈ B.T
  x : P ∈ B.ex
  u : ∀ p ∈ B.T, p.1 = P → p.2 = q
/-! ### the law's own def, a table of code objects with it -/
/-- the table of a def of the program is empty at the head -/
def TabAt (K : PySem.W.Frag) (fb : Addr) (h : Heap) : Prop := ∀ (c P : Addr) (o : Obj) (fd : FuncData) (e : Value) (dd : Option Addr) (vs : Array Value) (sl : Array (Option Value)), K.lookup fb = some o → o.data = .func fd → fd.code = .ref c → K.lookup c = some ⟨e, dd, .fields vs, sl⟩ → vs[11]? = some (.ref P) →
  h.get? P = some { cls := .none, data := .fields #[] }
theorem codeTab_ex {K : PySem.W.Frag} {c P : Addr} (e : PySem.W.codeHdIn K c P = true) : ∃ (cl : Value) (dd : Option Addr) (vs : Array Value) (sl : Array (Option Value)), K.lookup c = some ⟨cl, dd, .fields vs, sl⟩ ∧ vs[11]? = some (.ref P) := by
  unfold PySem.W.codeHdIn at e
  split at e
  · rename_i vs sl hk
    refine ⟨_, _, vs, sl, hk, ?_⟩
    simp only [Bool.and_eq_true] at e
    obtain ⟨⟨⟨⟨⟨e1, _⟩, _⟩, _⟩, _⟩, _⟩ := e
    split at e1
    · rename_i P' h
      rw [h, beq_iff_eq.mp e1]
    · cases e1
  · cases e
theorem TabAt.at {K : PySem.W.Frag} {fb c P : Addr} {h : Heap} {fd : FuncData} {oc : Value} {od : Option Addr} {osl : Array (Option Value)} (t : TabAt K fb h) (lk : K.lookup fb = some ⟨oc, od, .func fd, osl⟩) (hc : fd.code = .ref c) (e : PySem.W.codeHdIn K c P = true) : h.get? P = some { cls := .none, data := .fields #[] } := by
  obtain ⟨cl, dd, vs, sl, e1, e2⟩ := codeTab_ex e
  exact t c P _ fd cl dd vs sl lk rfl hc e1 e2
end Q
/-! QX20 -/
namespace Q
open PySem L2 PySem.Spec PyProof.Rows LamX
end Q
/-! QX21 -/
namespace Q
open PySem L2 PySem.Spec PyProof.Rows LamX
/-! ### an exception's field, where it is of one class and of no other -/
/-! ### another def that holds the lambdas -/
section
variable {K : PySem.W.Frag} {B : Bs} {F : Hp} {pa : Option Addr} {t : Ts} {env : En} {σ : L2.St} {H : Hp} {Pt : Addr} {q0 : Str}
theorem TabOf.nt (T : TabOf B Pt q0) (C : Cf K B F pa t env σ H) : F Pt = none ∧ ∃ ps, H Pt = some (.tbl ps) ∧ TriplesOk ps.toList ∧ ∀ (pos : Pos) (cv : Value), codeAmong pos ps.toList = some cv → ∃ c, cv = .ref c ∧ F c = some (CodeO c q0) := (C.tab _ T.m).2
end
end Q
/-! QX22 -/
namespace Q
open PySem L2 PyProof.Rows
/-! ### range(m, n, -1) -/
end Q
/-! QX23 -/
namespace Q
open PySem L2 PyProof.Rows
/-! ### max of a list of pairs -/
end Q
/-! QX25 -/
namespace Q
open PySem L2 PySem.Spec PyProof.Rows LamX
end Q
/-! QO1 -/
namespace L2
open PySem PySem.Spec PyProof.Rows
end L2
namespace Q
open PySem L2 PyProof.Rows
end Q
/-! QO2 -/
namespace Q
open PySem L2 PyProof.Rows
/-! ### texts -/
/-! ### {k: v for x in xs if c} -/
/-! ### x.append(y.pop(k)) -/
end Q
/-! QO3 -/
namespace Q
open PySem L2 PyProof.Rows
/-! ### defs with a default -/
end Q
/-! QX3 -/
namespace Q
open PySem L2 PyProof.Rows
/-! ### reversed(range(n)) -/
end Q
/-! QX4 -/
/-! ### list(reversed(l)) -/
namespace Q
open PySem
open Sem (wp)
open L2 PyProof.Rows
/-! ### f(a, .., k = v, ..) that may raise -/
end Q
/-! QX5 -/
namespace Q
open PySem L2 PyProof.Rows
/-! ### calls that may raise: defaults, one way or the other -/
end Q
/-! QO4 -/
namespace Q
open PySem PySem.Spec PyProof.Rows L2
end Q
namespace Q
open PySem L2 PySem.Spec PyProof.Rows LamX
end Q
/-! QX6 -/
namespace Q
open PySem L2 PyProof.Rows
end Q
/-! QX7 -/
namespace Q
open PySem L2 PyProof.Rows
end Q
/-! QX8 -/
namespace PySem.W
open PySem PyProof.Rows
end PySem.W
namespace Q
open PySem L2 PyProof.Rows
end Q
/-! QO5 -/
namespace Q
open PySem L2 PyProof.Rows
/-! ### != of instances, or of None twice -/
end Q
/-! QO6 -/
/-! != of lists that hold instances with an own ==, where all is equal -/
namespace Q
open PySem PySem.Spec PyProof.Rows L2
section
variable {K : PySem.W.Frag} {B : Bs} {F : Hp} {pa : Option Addr} {t : Ts} {env : En} {σ : L2.St} {H H' : Hp}
theorem Cf.ext (C : Cf K B F pa t env σ H) (kp : Ext H H') : Cf K B F pa t env σ H' := by
  refine ⟨C.len, fun a u e => kp _ _ (C.sub a u e), C.bas, fun a u e hx ho => kp _ _ (C.frm a u e hx ho), C.new, fun a ha => ?_, C.val, fun i d e => ?_, C.sep, fun a e => ?_, C.pnn, C.tab.hs (fun q _ ps e => kp _ _ e), C.ntb, fun a d e => by
    obtain ⟨h1, ⟨u, h2, h3⟩, h4⟩ := C.obs a d e
    exact ⟨h1, ⟨u, kp _ _ h2, h3⟩, h4⟩, C.obx, C.osp⟩
  · obtain ⟨u, q⟩ := C.exl a ha
    exact ⟨u, kp _ _ q⟩
  · obtain ⟨a, u, h1, h2, h3⟩ := C.own i d e
    exact ⟨a, u, h1, kp _ _ h2, h3⟩
  · obtain ⟨h1, ⟨u, h2, h3⟩, h4⟩ := C.pen a e
    exact ⟨h1, ⟨u, kp _ _ h2, h3⟩, h4⟩
end
end Q
/-! QO7 -/
namespace Q
open PySem PySem.Spec PyProof.Rows L2
/-! ### len(o), o an instance whose class has __len__ -/
/-! ### a def with a default, handed all -/
end Q
/-! QO8 -/
/-! the law's own def where several defs hold lambdas: several tables of code objects -/
namespace Q
open PySem L2 PySem.Spec PyProof.Rows LamX
end Q
/-! QH35 -/
namespace Q
open PySem L2 PyProof.Rows PpSet
/-! ### set(l), l a list of whole numbers (HandS.SetFor has the tuples) -/
end Q
/-! QO9 -/
/-! sets of texts: set(l) and sorted(set(l)), l a list of texts -/
namespace Q
open PySem PySem.Spec PyProof.Rows L2 PpSet
def keyS (e : Int × Value) : Str := match e.2 with | .str k _ => k | _ => Str.empty
def GoodS (w : World) (e : Int × Value) : Prop := ∃ k tk, e.2 = Value.str k tk ∧ e.1 = hashStr w k
/-- the set of texts at a -/
def SetS (w : World) (h : Heap) (a : Addr) (S : Str → Bool) (n : Nat) : Prop :=
  ∃ o es ep t, h.get? a = some o ∧ o.ExactSet ∧ o.data = .set es ep t ∧ (∀ e ∈ es.toList, GoodS w e) ∧ (es.toList.map keyS).Nodup ∧ (∀ k, S k = true ↔ k ∈ es.toList.map keyS) ∧
    es.size < scanBound ∧ t.fits es.size = true ∧ es.size = n ∧ L2.Ris t.place.toList ∧ (w.params.followText "set-order" = true ∨ t.led = true)
section
variable {P : Program} {w : World} {h h' : Heap} {a : Addr} {S : Str → Bool} {n : Nat}
theorem SetS.at (R : SetS w h a S n) (k : ∀ o, h.get? a = some o → h'.get? a = some o) : SetS w h' a S n := by
  obtain ⟨o, es, ep, t, ho, r⟩ := R
  exact ⟨o, es, ep, t, k o ho, r⟩
end
end Q
/-! QO10 -/
namespace Q
open PySem L2 PyProof.Rows
/-! ### methods that tell None or a new object -/
end Q
/-! QX9 -/
namespace Q
open PySem L2 PyProof.Rows
end Q
/-! QX10 -/
namespace Q
open PySem L2 PyProof.Rows
end Q
/-! QX11 -/
namespace Q
open PySem L2 PyProof.Rows
end Q
/-! QO11 -/
/-! ### sorted(l, key = lambda r: r[0]); x in l, l a list of data -/
namespace Q
open PySem PySem.Spec PyProof.Rows L2 LamX
end Q
/-! QO12 -/
namespace Q
open PySem PySem.Spec PyProof.Rows L2
end Q
/-! QX12 -/
namespace Q
open PySem L2 PyProof.Rows
end Q
/-! QX13 -/
namespace Q
open PySem L2 PyProof.Rows
theorem onlyOwn_at {i : Nat} : ∀ {k : Nat} {env : En} {j : Nat} {d : D}, onlyOwn i k env = true → env[j]? = some (Sl.own d) → k + j = i
  | k, [], j, d, _, h => by simp at h
  | k, s :: e, 0, d, ho, h => by
    obtain rfl : s = .own d := by simpa using h
    have ho : ((k == i) && onlyOwn i (k + 1) e) = true := ho
    rw [Bool.and_eq_true] at ho
    have := beq_iff_eq.mp ho.1
    omega
  | k, s :: e, j + 1, d, ho, h => by
    have h' : e[j]? = some (Sl.own d) := by simpa using h
    have ho' : onlyOwn i (k + 1) e = true := by
      cases s with
      | own d' =>
        have ho : ((k == i) && onlyOwn i (k + 1) e) = true := ho
        rw [Bool.and_eq_true] at ho
        exact ho.2
      | _ => exact ho
    have := onlyOwn_at ho' h'
    omega
section
variable {X : Cx} {B : Bs} {e : Expr} {de : DE} {i : Nat}
theorem q_lend (h : ∀ B', QE X B' e de) : QE X B e (dLend i de) :=
  PE.imp (t := fun σ H Q => ∃ B', teOf X.K B' de σ H Q) ⟨fun pins s σ H Q I ⟨B', q⟩ => (h B').run pins s σ H Q I q⟩ fun σ H Q ⟨F, pa, t, env, P, C, hd, k⟩ => by
    unfold dLend at hd
    split at hd
    · rename_i x l hi
      obtain ⟨ho, hd⟩ := hd
      have only : ∀ {j : Nat} {d : D}, env[j]? = some (Sl.own d) → j = i := fun hj => by have := onlyOwn_at ho hj; omega
      obtain ⟨a, h0, hs, e0, r0, f0, p0, x0⟩ := C.own i _ hi
      obtain ⟨vs, rfl, rl⟩ : ∃ vs, h0 = .lst vs ∧ RelL X.K F pa (.tup x :: l) vs := r0
      have g1 : Gr F pa (upd F a (.lst vs)) pa := ⟨Gf.upd f0, rfl⟩
      have C1 : Cf X.K (B0 (upd F a (.lst vs)) pa t.bare H) (upd F a (.lst vs)) pa t.bare (env.set i (.val (.lst (.tup x :: l)))) σ H := by
        refine ⟨by simp [C.len], fun b o q => ?_, fun _ _ q => q, fun b o q _ _ => q, fun b o q => .inl ⟨o, q⟩, fun b hb => ?_, fun j d q => ?_, fun j d q => ?_, fun j m d d' b q _ _ _ => ?_, fun b q => ?_, rfl, TabF.nil, fun b ps q => by
          by_cases hb : b = a
          · subst hb; rw [upd_same] at q; simp at q
          · rw [upd_ne hb] at q; exact C.ntb b ps q, fun b d q => (nomatch q), fun b ⟨d, q⟩ => (nomatch q), fun j d b q s => rfl⟩
        · by_cases hb : b = a
          · subst hb; rw [upd_same] at q; cases q; exact e0
          · rw [upd_ne hb] at q; exact C.sub b o q
        · have q : pa = some b := mem_pa.mp hb
          obtain ⟨_, ⟨u, q, _⟩, _⟩ := C.pen b q
          exact ⟨u, q⟩
        · rcases get_set q with ⟨rfl, z⟩ | ⟨ne, z⟩
          · cases z
            exact ⟨.ref a, hs, RelO1.rel (d := .lst (.tup x :: l)) ⟨vs, rfl, RelL.mono g1 _ _ rl⟩ upd_same⟩
          · obtain ⟨v, h1, h2⟩ := C.val j d z
            exact ⟨v, h1, RelD.mono g1 d v h2⟩
        · rcases get_set q with ⟨_, z⟩ | ⟨ne, z⟩
          · cases z
          · exact (ne (only z).symm).elim
        · rcases get_set q with ⟨_, z⟩ | ⟨ne, z⟩
          · cases z
          · exact (ne (only z).symm).elim
        · obtain ⟨h1, ⟨u, h2, h3⟩, _⟩ := C.pen b q
          refine ⟨?_, ⟨u, h2, h3.mono g1.f⟩, .inl (mem_pa.mpr q)⟩
          rw [upd_ne (fun z => p0 (by rw [q, z]))]
          exact h1
      refine ⟨_, _, pa, t.bare, _, _, C1, hd, fun v r F' pa' t' H' g' C' rr pr => ?_⟩
      cases r with
      | bl bb =>
        have gp : pa' = pa := C'.pnn
        have kp : ∀ b o, H b = some o → pa ≠ some b → H' b = some o := fun b o q n => C'.frm b o q (fun z => n (mem_pa.mp z)) (fun ⟨d, z⟩ => by cases z)
        have al : ∀ b o, H b = some o → ∃ o', H' b = some o' := fun b o q => by
          by_cases hp : pa = some b
          · obtain ⟨_, ⟨u, q, _⟩, _⟩ := C'.pen b (gp.trans hp)
            exact ⟨u, q⟩
          · exact ⟨o, kp b o q hp⟩
        have fa : F' a = some (.lst vs) := C'.bas a _ upd_same
        -- what is frozen then, without the lent list
        have g2 : Gr F pa (fun b => if b = a then none else F' b) pa' := by
          refine ⟨fun b o q => ?_, C'.pnn⟩
          have nb : b ≠ a := fun z => by rw [z, f0] at q; cases q
          show (if b = a then none else F' b) = some o
          rw [if_neg nb]
          exact C'.bas b o (by show upd F a (.lst vs) b = some o; rw [upd_ne nb]; exact q)
        have pick : ∀ {b : Addr} {o : HO}, (if b = a then none else F' b) = some o → b ≠ a ∧ F' b = some o := fun {b o} q => by
          by_cases nb : b = a
          · rw [if_pos nb] at q; cases q
          · rw [if_neg nb] at q; exact ⟨nb, q⟩
        refine k v (.bl bb) _ pa' (t'.wear t.obs) H' g2 ⟨C.len, fun b o q => C'.sub b o (pick q).2, fun b o q => g2.f _ _ (C.bas b o q), fun b o q hx hO => ?_, fun b o q => ?_, fun b hb => ?_, fun j d q => ?_, fun j d q => ?_, C.sep, fun b q => ?_, gp.trans C.pnn, C.tab.keep g2.f (fun p hp ps z => by
            cases qq : (if p.1 = a then none else F' p.1 : Option HO) with
            | none => rfl
            | some u =>
              obtain ⟨nb, q2⟩ := pick qq
              rcases C'.new p.1 u q2 with ⟨o', y⟩ | y
              · have y : upd F a (.lst vs) p.1 = some o' := y
                rw [upd_ne nb, (C.tab p hp).2.1] at y; cases y
              · have y : H p.1 = none := y
                rw [z] at y; cases y) (fun p _ ps z => kp _ _ z fun y => by
            obtain ⟨_, ⟨u, q, ca, w, _⟩, _⟩ := C.pen p.1 y
            rw [z] at q
            subst w
            cases q), fun b ps q => C'.ntb b ps (pick q).2, fun b d q => by
          obtain ⟨h1, ⟨u, h2, h3⟩, h4, h5⟩ := C.obs b d q
          refine ⟨?_, ⟨u, kp b u h2 h4, RelO1.mono g2 d u h3⟩, fun z => h4 (gp.symm.trans z), h5⟩
          cases qq : (if b = a then none else F' b : Option HO) with
          | none => rfl
          | some w =>
            obtain ⟨nb, q2⟩ := pick qq
            rcases C'.new b w q2 with ⟨o', y⟩ | y
            · have y : upd F a (.lst vs) b = some o' := y
              rw [upd_ne nb, h1] at y; exact (nomatch y)
            · have y : H b = none := y
              rw [h2] at y; exact (nomatch y), C.obx, C.osp⟩ (by unfold RelD at rr ⊢; exact rr) pr
        · refine kp b o (C.frm b o q hx hO) fun z => ?_
          rcases (C.pen b z).2.2 with y | y
          · exact hx y
          · rw [y] at q; cases q
        · obtain ⟨nb, q⟩ := pick q
          rcases C'.new b o q with ⟨o', y⟩ | y
          · have y : upd F a (.lst vs) b = some o' := y
            rw [upd_ne nb] at y
            exact C.new b o' y
          · exact .inr (C.fresh y).2.1
        · obtain ⟨o, q⟩ := C.exl b hb
          exact al b o q
        · obtain ⟨w, h1, h2⟩ := C.val j d q
          exact ⟨w, h1, RelD.mono g2 d w h2⟩
        · obtain rfl := only q
          rw [hi] at q
          cases q
          refine ⟨a, .lst vs, hs, kp a _ e0 p0, ⟨vs, rfl, RelL.mono g2 _ _ rl⟩, by show (if a = a then none else F' a) = none; rw [if_pos rfl], fun z => p0 (gp.symm.trans z), x0⟩
        · obtain ⟨h1, ⟨u, h2, ca, h3, h4⟩, h5⟩ := C'.pen b q
          refine ⟨?_, ⟨u, h2, ca, h3, ?_⟩, ?_⟩
          · show (if b = a then none else F' b) = none
            rw [h1]; split <;> rfl
          · show (if ca = a then none else F' ca) = _
            rw [if_neg fun z => ?_]
            · exact h4
            · rw [z, fa] at h4
              have h4 : vs = t'.cells.map V.int := by cases h4; rfl
              obtain ⟨v0, vr, rfl, r1, _⟩ := RelL.inv rl
              unfold RelD at r1
              obtain ⟨aa, us, rfl, _⟩ := r1
              cases hc : t'.cells with
              | nil => rw [hc] at h4; cases h4
              | cons c cs => rw [hc] at h4; cases h4
          · rcases h5 with y | y
            · exact (C.pen b (mem_pa.mp y)).2.2
            · exact .inr (C.fresh y).2.1
      | _ => exact pr.elim
    · exact hd.elim
end
end Q
/-! QX14 -/
namespace Q
open PySem L2 PyProof.Rows
end Q
/-! QO13 -/
namespace Q
open PySem PySem.Spec PyProof.Rows L2
section
variable {X : Cx} {B : Bs} {e a : Expr} {da : DE} {pos : Pos}
/-- repr({}), or of data -/
def rReprE (K : PySem.W.Frag) : List V → Hp → VK → Prop := fun xs H Q => (∃ a, xs = [.ref a] ∧ H a = some (.dK []) ∧ Q (.str "{}") H) ∨ rReprD K xs H Q
theorem call_reprE (hg : X.A.guards = some []) (hu : X.A.units + 64 < cLine) : CallR X (.builtin "repr") (rReprE X.K) := by
  intro pins s σ H xs us Q I r h
  rcases h with ⟨a, rfl, ha, q⟩ | h
  · obtain ⟨u, rfl, ru⟩ := vals1 r
    obtain rfl : u = Value.ref a := ru
    obtain ⟨hz, hS, vs, rk, m⟩ : ([] : List (Key × V)).length ≤ sizeLine ∧ (a == sysModules) = false ∧ ∃ vs, KV [] vs ∧ s.heap.DictOf (mixKind X.prog X.w) a vs := I.hok a _ ha
    cases rk
    obtain ⟨ep, o, es, ho, hx, hd, _, hp, _⟩ := m.dictAt
    have he : es = #[] := by
      have h3 : es.toList = [] := by
        cases hq : es.toList with
        | nil => rfl
        | cons x l => rw [hq] at hp; cases hp
      exact Array.toList_eq_nil_iff.mp h3
    subst he
    have rd : Reads s.heap (.ref a) (.dict []) [a] := by
      have h1 : o.cls = .type "dict" := hx.1
      exact .dict (kvs := []) (as := []) (bs := []) ho h1 hd .nil .nil
    refine repr_of_reads' rd rfl (fun _ z => by rw [List.mem_singleton.mp z] at hS; simp at hS) hg ?_ (fun _ _ z => z) (fun h' u tk keep => ⟨.str "{}", H, I.kept keep, ⟨u, rfl⟩, q⟩) (by decide +kernel)
    have h9 : (PyData.dict []).depth ≤ 1 := by decide +kernel
    omega
  · exact call_reprD hg hu pins s σ H xs us Q I r h
theorem rc_reprE {K : PySem.W.Frag} : RCall K (rReprE K) bReprE := fun B F pa t env σ H xs vs P Q W r h k => by
  unfold bReprE at h
  split at h
  · obtain ⟨v, rfl, r1⟩ := r.one
    obtain ⟨a, us, rfl, e, hl, _⟩ := RelX.dic W r1
    exact .inl ⟨a, rfl, e, k _ (.str "{}") F H (Gr.refl _ _) W (rD_str _) h⟩
  · rename_i x _
    exact .inr (rc_repr (K := K) B F pa t env σ H [x] vs P Q W r h k)
  · exact h.elim
theorem rop_neX {K : PySem.W.Frag} : ROp K rNe oNeX := fun B F pa t env σ H x y v u P Q W rx ry h k => by
  cases x with
  | rp a =>
    cases y with
    | rp b => exact rop_neR (K := K) B F pa t env σ H (.rp a) (.rp b) v u P Q W rx ry h k
    | _ => exact h.elim
  | str a =>
    cases y with
    | str b =>
      obtain rfl := rx.str W
      obtain rfl := ry.str W
      refine ⟨rfl, ?_⟩
      have h : P (.bl (!decide (a = b))) := h
      have e : (!decide (V.str a = V.str b)) = !decide (a = b) := by
        by_cases z : a = b
        · subst z; simp
        · rw [decide_eq_false z, decide_eq_false fun y => z (V.str.inj y)]
      have := k _ (.bl (!decide (V.str a = V.str b))) F H (Gr.refl _ _) W (rD_bl _) (by rw [e]; exact h)
      exact this
    | _ => exact h.elim
  | _ => exact h.elim
end
end Q
/-! QO14 -/
namespace Q
open PySem PySem.Spec PyProof.Rows L2
def Tx (d : D) : List Nat := (toPy d).shown.cps.toList
def Jx (l : List D) : List Nat := (Str.join ", " (PyData.shownAll (toPys l))).cps.toList
theorem toPys_len : ∀ l : List D, (PyData.shownAll (toPys l)).length = l.length
  | [] => rfl
  | _ :: l => by
    show (PyData.shownAll (toPys l)).length + 1 = l.length + 1
    rw [toPys_len l]
theorem Jx_nil : Jx [] = [] := rfl
theorem Jx_one (d : D) : Jx [d] = Tx d := rfl
theorem Jx_cons (d e : D) (l : List D) : Jx (d :: e :: l) = Tx d ++ 44 :: 32 :: Jx (e :: l) := by
  show (Str.join ", " ((toPy d).shown :: (toPy e).shown :: PyData.shownAll (toPys l))).cps.toList = _
  rw [join_cons_cons, cps_toList_append, cps_toList_append, signs_sep, List.append_assoc]
  rfl
theorem Tx_tup (l : List D) : Tx (.tup l) = 40 :: (Jx l ++ (if l.length == 1 then [44, 41] else [41])) := by
  show (tupleText (PyData.shownAll (toPys l))).cps.toList = _
  unfold tupleText
  rw [cps_toList_append, cps_toList_append, signs_lparen, toPys_len, List.append_assoc]
  show [40] ++ (Jx l ++ _) = _
  by_cases h : (l.length == 1) = true
  · rw [if_pos h, if_pos h]; rfl
  · rw [if_neg h, if_neg h]; rfl
theorem Tx_lst (l : List D) : Tx (.lst l) = 91 :: (Jx l ++ [93]) := by
  show (listText (PyData.shownAll (toPys l))).cps.toList = _
  have go : ∀ (ts : List Str) (k : Nat) (acc : Str), (textFrom k acc ts).cps.toList = acc.cps.toList ++ (if k > 0 ∧ ts ≠ [] then [44, 32] else []) ++ (Str.join ", " ts).cps.toList := by
    intro ts
    induction ts with
    | nil => intro k acc; show acc.cps.toList = _; rw [if_neg (fun z => z.2 rfl)]; simp [join_nil, signs_empty]
    | cons t ts ih =>
      intro k acc
      show (textFrom (k + 1) (acc ++ (if k > 0 then ", " else "" : String) ++ t) ts).cps.toList = _
      rw [ih, cps_toList_append, cps_toList_append]
      have e1 : ((if k > 0 then ", " else "" : String) : Str).cps.toList = if k > 0 ∧ (t :: ts) ≠ [] then [44, 32] else [] := by
        by_cases h : k > 0
        · rw [if_pos h, if_pos ⟨h, by simp⟩]; exact signs_sep
        · rw [if_neg h, if_neg (fun z => h z.1)]; rfl
      rw [e1]
      cases ts with
      | nil => simp [join_one, join_nil, signs_empty]
      | cons t2 ts =>
        have e2 : (k + 1 > 0 ∧ (t2 :: ts) ≠ []) := ⟨by omega, by simp⟩
        rw [if_pos e2, join_cons_cons, cps_toList_append, cps_toList_append, signs_sep]
        simp
  show (textFrom 0 "[" (PyData.shownAll (toPys l)) ++ "]").cps.toList = _
  rw [cps_toList_append, go, if_neg (by omega), signs_lbrack, signs_rbrack]
  rfl
theorem Tx_non : Tx .non = [78, 111, 110, 101] := signs_None
theorem Tx_bl (b : Bool) : Tx (.bl b) = if b then [84, 114, 117, 101] else [70, 97, 108, 115, 101] := by
  cases b
  · exact signs_False
  · exact signs_True
theorem Tx_0 : Tx (.str "0") = [39, 48, 39] := by
  show (reprText "0").cps.toList = _
  decide +kernel
def num (c : Nat) : Prop := c = 45 ∨ (48 ≤ c ∧ c ≤ 57)
theorem Tx_int (i : Int) : Tx (.int i) = (toString i).toList.map Char.toNat := signs_ofString _
theorem Tx_num (i : Int) : ∀ c ∈ Tx (.int i), num c := fun c hc => by
  rw [Tx_int] at hc
  obtain ⟨ch, h, rfl⟩ := List.mem_map.mp hc
  rcases int_sign i ch h with h | h
  · exact .inr (digit_range h)
  · rw [h]; exact .inl rfl
theorem int_list (i : Int) : (toString i).toList = if 0 ≤ i then Nat.toDigits 10 i.toNat else '-' :: Nat.toDigits 10 (-i).toNat := by
  rw [Int.toString_eq_repr, Int.repr_eq_if]
  split
  · rw [Nat.toList_repr]
  · rw [String.toList_append, Nat.toList_repr]
    rfl
theorem Tx_ne (i : Int) : ∃ c r, Tx (.int i) = c :: r ∧ num c := by
  have h : Tx (.int i) ≠ [] := by
    rw [Tx_int, int_list]
    intro z
    split at z
    · exact Nat.toDigits_ne_nil (List.map_eq_nil_iff.mp z)
    · cases z
  cases hq : Tx (.int i) with
  | nil => exact absurd hq h
  | cons c r => exact ⟨c, r, rfl, Tx_num i c (by rw [hq]; exact List.mem_cons_self ..)⟩
theorem map_char_inj {l m : List Char} (h : l.map Char.toNat = m.map Char.toNat) : l = m := by
  refine (List.map_inj_right fun a b e => ?_).mp h
  have e : a.val.toNat = b.val.toNat := e
  exact Char.ext (UInt32.toNat_inj.mp e)
theorem digits_inj {m n : Nat} (h : Nat.toDigits 10 m = Nat.toDigits 10 n) : m = n := by
  have h1 := Nat.ofDigitChars_ten_toDigits (n := m)
  rw [h, Nat.ofDigitChars_ten_toDigits] at h1
  exact h1.symm
theorem no_minus (n : Nat) : ¬ '-' ∈ Nat.toDigits 10 n := fun h => by
  have := Nat.isDigit_of_mem_toDigits (by decide) (by decide) h
  exact absurd this (by decide)
theorem Tx_inj {i j : Int} (h : Tx (.int i) = Tx (.int j)) : i = j := by
  rw [Tx_int, Tx_int] at h
  have h := map_char_inj h
  rw [int_list, int_list] at h
  split at h <;> split at h
  · have := digits_inj h
    omega
  · exact absurd (by rw [h]; exact List.mem_cons_self ..) (no_minus i.toNat)
  · exact absurd (by rw [← h]; exact List.mem_cons_self ..) (no_minus j.toNat)
  · have := digits_inj (List.cons.inj h).2
    omega
/-- what ends a number -/
def Ends (u : List Nat) : Prop := ∀ c ∈ u.head?, ¬ num c
theorem num_split : ∀ {l m u v : List Nat}, (∀ c ∈ l, num c) → (∀ c ∈ m, num c) → Ends u → Ends v → l ++ u = m ++ v → l = m ∧ u = v
  | [], [], _, _, _, _, _, _, h => ⟨rfl, h⟩
  | [], c :: m, u, v, _, hm, hu, _, h => by
    rw [List.nil_append] at h
    subst h
    exact absurd (hm c (List.mem_cons_self ..)) (hu c rfl)
  | c :: l, [], u, v, hl, _, _, hv, h => by
    rw [List.nil_append] at h
    subst h
    exact absurd (hl c (List.mem_cons_self ..)) (hv c rfl)
  | c :: l, d :: m, u, v, hl, hm, hu, hv, h => by
    rw [List.cons_append, List.cons_append] at h
    obtain ⟨e1, h1⟩ := List.cons.inj h
    obtain ⟨e2, e3⟩ := num_split (fun e he => hl e (List.mem_cons_of_mem _ he)) (fun e he => hm e (List.mem_cons_of_mem _ he)) hu hv h1
    exact ⟨by rw [e1, e2], e3⟩
theorem int_split {i j : Int} {u v : List Nat} (hu : Ends u) (hv : Ends v) (h : Tx (.int i) ++ u = Tx (.int j) ++ v) : i = j ∧ u = v := by
  obtain ⟨h1, h2⟩ := num_split (Tx_num i) (Tx_num j) hu hv h
  exact ⟨Tx_inj h1, h2⟩
theorem head_no {c : Nat} {r u : List Nat} {j : Int} {v : List Nat} (hc : ¬ num c) (h : c :: r ++ u = Tx (.int j) ++ v) : False := by
  obtain ⟨d, s, hd, hn⟩ := Tx_ne j
  rw [hd, List.cons_append, List.cons_append] at h
  exact hc (by rw [(List.cons.inj h).1]; exact hn)
theorem part_split {x : D} {j : Int} {u v : List Nat} (hx : Pt38 x) (hu : Ends u) (hv : Ends v) (h : Tx x ++ u = Tx (.int j) ++ v) : x = .int j ∧ u = v := by
  rcases hx with rfl | ⟨b, rfl⟩ | ⟨i, rfl⟩ | rfl | ⟨i, rfl⟩
  · rw [Tx_non] at h
    exact (head_no (by unfold num; omega) h).elim
  · rw [Tx_bl] at h
    cases b
    · exact (head_no (c := 70) (by unfold num; omega) h).elim
    · exact (head_no (c := 84) (by unfold num; omega) h).elim
  · obtain ⟨e1, e2⟩ := int_split hu hv h
    exact ⟨by rw [e1], e2⟩
  · rw [Tx_0] at h
    exact (head_no (by unfold num; omega) h).elim
  · rw [Tx_tup] at h
    exact (head_no (by unfold num; omega) h).elim
theorem ends_c {c : Nat} {r : List Nat} (h : ¬ num c) : Ends (c :: r) := fun d hd => by
  have hd : some c = some d := hd
  rw [← Option.some.inj hd]
  exact h
theorem n44 : ¬ num 44 := by unfold num; omega
theorem n41 : ¬ num 41 := by unfold num; omega
theorem Tx_due (a b c : Int) : Tx (.tup [.int a, .int b, .int c]) = 40 :: (Tx (.int a) ++ 44 :: 32 :: (Tx (.int b) ++ 44 :: 32 :: (Tx (.int c) ++ [41]))) := by
  rw [Tx_tup, Jx_cons, Jx_cons, Jx_one]
  simp
theorem sep_split {r s : List Nat} (h : 44 :: 32 :: r = 44 :: 32 :: s) : r = s := (List.cons.inj (List.cons.inj h).2).2
theorem row_split {x : D} {a b c : Int} {u v : List Nat} (hx : Rw38 x) (h : Tx x ++ u = Tx (.tup [.int a, .int b, .int c]) ++ v) : x = .tup [.int a, .int b, .int c] ∧ u = v := by
  rw [Tx_due] at h
  have hd : ∀ {c : Nat} {r : List Nat}, c ≠ 40 → Tx x = c :: r → False := fun {c r} hc e => by
    rw [e, List.cons_append, List.cons_append] at h
    exact hc (List.cons.inj h).1
  have tup : ∀ ps : List D, (∀ p ∈ ps, Pt38 p) → x = .tup ps → x = .tup [.int a, .int b, .int c] ∧ u = v := fun ps hps e => by
    subst e
    rw [Tx_tup] at h
    have h : Jx ps ++ (if ps.length == 1 then [44, 41] else [41]) ++ u = Tx (.int a) ++ 44 :: 32 :: (Tx (.int b) ++ 44 :: 32 :: (Tx (.int c) ++ [41])) ++ v := (List.cons.inj h).2
    rcases ps with _ | ⟨p, _ | ⟨q, _ | ⟨r, _ | ⟨s, l⟩⟩⟩⟩
    · rw [Jx_nil] at h
      have h : [41] ++ u = Tx (.int a) ++ (44 :: 32 :: (Tx (.int b) ++ 44 :: 32 :: (Tx (.int c) ++ [41])) ++ v) := by
        rw [← List.append_assoc]
        exact h
      exact (head_no n41 h).elim
    · rw [Jx_one] at h
      simp only [List.cons_append, List.append_assoc] at h
      obtain ⟨_, h1⟩ := part_split (hps p (by simp)) (ends_c n44) (ends_c n44) h
      have h1 : 44 :: 41 :: u = 44 :: 32 :: _ := h1
      have := (List.cons.inj (List.cons.inj h1).2).1
      omega
    · rw [Jx_cons, Jx_one] at h
      simp only [List.cons_append, List.append_assoc] at h
      obtain ⟨_, h1⟩ := part_split (hps p (by simp)) (ends_c n44) (ends_c n44) h
      obtain ⟨_, h2⟩ := part_split (hps q (by simp)) (ends_c n41) (ends_c n44) (sep_split h1)
      have h2 : 41 :: u = 44 :: _ := h2
      have := (List.cons.inj h2).1
      omega
    · rw [Jx_cons, Jx_cons, Jx_one] at h
      simp only [List.cons_append, List.append_assoc] at h
      obtain ⟨e1, h1⟩ := part_split (hps p (by simp)) (ends_c n44) (ends_c n44) h
      obtain ⟨e2, h2⟩ := part_split (hps q (by simp)) (ends_c n44) (ends_c n44) (sep_split h1)
      obtain ⟨e3, h3⟩ := part_split (hps r (by simp)) (ends_c n41) (ends_c n41) (sep_split h2)
      have h3 : 41 :: u = 41 :: v := h3
      exact ⟨by rw [e1, e2, e3], (List.cons.inj h3).2⟩
    · rw [Jx_cons, Jx_cons, Jx_cons] at h
      simp only [List.cons_append, List.append_assoc] at h
      obtain ⟨_, h1⟩ := part_split (hps p (by simp)) (ends_c n44) (ends_c n44) h
      obtain ⟨_, h2⟩ := part_split (hps q (by simp)) (ends_c n44) (ends_c n44) (sep_split h1)
      obtain ⟨_, h3⟩ := part_split (hps r (by simp)) (ends_c n44) (ends_c n41) (sep_split h2)
      have h3 : 44 :: _ = 41 :: v := h3
      have := (List.cons.inj h3).1
      omega
  rcases hx with hx | ⟨ps, e, hps⟩ | ⟨ps, rfl⟩
  · rcases hx with rfl | ⟨b', rfl⟩ | ⟨i, rfl⟩ | rfl | ⟨i, rfl⟩
    · exact (hd (by decide) Tx_non).elim
    · cases b'
      · exact (hd (c := 70) (by decide) (Tx_bl false)).elim
      · exact (hd (c := 84) (by decide) (Tx_bl true)).elim
    · obtain ⟨d, s, e, hn⟩ := Tx_ne i
      exact (hd (by unfold num at hn; omega) e).elim
    · exact (hd (by decide) Tx_0).elim
    · exact tup _ (fun p hp => by rw [List.mem_singleton.mp hp]; exact .inr (.inr (.inl ⟨i, rfl⟩))) rfl
  · exact tup ps hps e
  · exact (hd (by decide) (Tx_lst ps)).elim
theorem list_split : ∀ {l m : List D}, (∀ d ∈ l, Rw38 d) → (∀ d ∈ m, Du38 d) → Jx l ++ [93] = Jx m ++ [93] → l = m
  | [], [], _, _, _ => rfl
  | [], y :: m, _, hm, h => by
    obtain ⟨a, b, c, rfl⟩ := hm y (List.mem_cons_self ..)
    have e : ∃ r, Jx (.tup [.int a, .int b, .int c] :: m) = 40 :: r := by
      cases m with
      | nil => exact ⟨_, by rw [Jx_one, Tx_due]⟩
      | cons z m => exact ⟨_, by rw [Jx_cons, Tx_due, List.cons_append]⟩
    obtain ⟨r, e⟩ := e
    rw [e, Jx_nil, List.cons_append] at h
    injection h with h _
    omega
  | x :: l, [], hl, _, h => by
    rw [Jx_nil] at h
    have e : ∃ c r, Jx (x :: l) = c :: r := by
      have e0 : ∃ c r, Tx x = c :: r := by
        rcases hl x (List.mem_cons_self ..) with hx | ⟨ps, rfl, _⟩ | ⟨ps, rfl⟩
        · rcases hx with rfl | ⟨b', rfl⟩ | ⟨i, rfl⟩ | rfl | ⟨i, rfl⟩
          · exact ⟨_, _, Tx_non⟩
          · cases b'
            · exact ⟨_, _, Tx_bl false⟩
            · exact ⟨_, _, Tx_bl true⟩
          · obtain ⟨d, s, e, _⟩ := Tx_ne i
            exact ⟨d, s, e⟩
          · exact ⟨_, _, Tx_0⟩
          · exact ⟨_, _, Tx_tup _⟩
        · exact ⟨_, _, Tx_tup _⟩
        · exact ⟨_, _, Tx_lst _⟩
      obtain ⟨c, r, e0⟩ := e0
      cases l with
      | nil => exact ⟨c, r, by rw [Jx_one, e0]⟩
      | cons z l => exact ⟨c, _, by rw [Jx_cons, e0, List.cons_append]⟩
    obtain ⟨c, r, e⟩ := e
    rw [e] at h
    have := congrArg List.length h
    simp at this
  | x :: l, y :: m, hl, hm, h => by
    obtain ⟨a, b, c, rfl⟩ := hm y (List.mem_cons_self ..)
    have hx := hl x (List.mem_cons_self ..)
    have hl' : ∀ d ∈ l, Rw38 d := fun d hd => hl d (List.mem_cons_of_mem _ hd)
    have hm' : ∀ d ∈ m, Du38 d := fun d hd => hm d (List.mem_cons_of_mem _ hd)
    cases l with
    | nil =>
      cases m with
      | nil =>
        rw [Jx_one, Jx_one] at h
        rw [(row_split hx h).1]
      | cons z m =>
        rw [Jx_one, Jx_cons, List.append_assoc] at h
        have h := (row_split hx h).2
        have h : 93 :: [] = 44 :: _ := h
        injection h with h _
        omega
    | cons w l =>
      cases m with
      | nil =>
        rw [Jx_one, Jx_cons, List.append_assoc] at h
        have h := (row_split hx h).2
        have h : 44 :: _ = 93 :: [] := h
        injection h with h _
        omega
      | cons z m =>
        rw [Jx_cons, Jx_cons, List.append_assoc, List.append_assoc] at h
        obtain ⟨e1, h1⟩ := row_split hx h
        simp only [List.cons_append] at h1
        rw [e1, list_split hl' hm' (sep_split h1)]
section
variable {K : PySem.W.Frag}
theorem rop_eqT : ROp K rEq oEqT := fun B F pa t env σ H x y v u P Q W rx ry h k => by
  unfold oEqT at h
  split at h
  · rename_i a b
    obtain ⟨⟨h1, h2⟩, h⟩ := h
    have e1 := RelX.rp W rx
    have e2 := RelX.rp W ry
    subst e1 e2
    refine ⟨rfl, k _ (.bl (decide ((V.str (toPy (.lst a)).shown) = V.str (toPy (.lst b)).shown))) F H (Gr.refl _ _) W (rD_bl _) (h _ ?_)⟩
    rw [decide_eq_true_eq]
    constructor
    · intro e
      have e := V.str.inj e
      have e3 : Tx (.lst a) = Tx (.lst b) := congrArg (fun z : Str => z.cps.toList) e
      rw [Tx_lst, Tx_lst] at e3
      exact list_split h1 h2 (List.cons.inj e3).2
    · intro e
      rw [e]
  · exact h.elim
theorem due_small {d : D} (h : Du38 d) : ∀ c ∈ Tx d, c < 200 := fun c hc => by
  obtain ⟨x, y, z, rfl⟩ := h
  have n : ∀ {i : Int}, c ∈ Tx (.int i) → c < 200 := fun {i} h => by
    have := Tx_num i c h
    unfold num at this
    omega
  rw [Tx_due] at hc
  simp only [List.mem_cons, List.mem_append, List.not_mem_nil, or_false] at hc
  rcases hc with rfl | h | rfl | rfl | h | rfl | rfl | h | rfl
  · decide
  · exact n h
  · decide
  · decide
  · exact n h
  · decide
  · decide
  · exact n h
  · decide
theorem dues_small : ∀ {l : List D}, (∀ d ∈ l, Du38 d) → ∀ c ∈ Jx l, c < 200
  | [], _, c, hc => by
    rw [Jx_nil] at hc
    cases hc
  | [d], h, c, hc => by
    rw [Jx_one] at hc
    exact due_small (h d (List.mem_cons_self ..)) c hc
  | d :: e :: l, h, c, hc => by
    rw [Jx_cons] at hc
    rcases List.mem_append.mp hc with hc | hc
    · exact due_small (h d (List.mem_cons_self ..)) c hc
    · simp only [List.mem_cons] at hc
      rcases hc with rfl | rfl | hc
      · decide
      · decide
      · exact dues_small (fun f hf => h f (List.mem_cons_of_mem _ hf)) c hc
theorem rc_reprS : RCall K (rReprD K) bReprS := fun B F pa t env σ H xs vs P Q W r h k => by
  unfold bReprS at h
  split at h
  · rename_i l
    obtain ⟨⟨h0, h1, h2, h3, h4⟩, h⟩ := h
    obtain ⟨v, rfl, r1⟩ := r.one
    have dp := dp_x W r1 h1
    refine ⟨v, toPy (.lst l), rfl, dp, rs_show _ h1 h3, PyData.hasDict_of_canLay _ (lay_toPy _ h1), by rw [dep_toPy _ h1]; exact h2, Nat.le_trans (rs_len _ h1 h3) (Nat.le_trans h4 (by decide)), ?_⟩
    refine k (.str (toPy (.lst l)).shown) (.str (toPy (.lst l)).shown) F H (Gr.refl _ _) W (rD_str _) (h _ ?_ (rs_len _ h1 h3))
    show (toPy (.lst l)).shown.cps.all (· < 0x110000) = true
    rw [← Array.all_toList, List.all_eq_true]
    intro c hc
    have hc : c ∈ Tx (.lst l) := hc
    rw [Tx_lst] at hc
    simp only [List.mem_cons, List.mem_append, List.not_mem_nil, or_false] at hc
    refine decide_eq_true ?_
    rcases hc with rfl | hc | rfl
    · decide
    · have := dues_small h0 c hc
      omega
    · decide
  · exact h.elim
end
end Q
/-! T_k38 -/
namespace L_k38
open PySem L2 PyProof.Rows Q
def top (i : Nat) : Stmt := PySem.Challenge.pw_askback_k38_papers_of_marks.main.body.getD i (.Pass ⟨0, 0, 0, 0⟩)
abbrev s__law_last_3 : Stmt := top 28
abbrev N__law_last_3 : List Str := ["_law_base", "_law_begun_here", "_law_number", "_law_found", "_law_power", "_law_exponent", "_law_sign", "_law_back"]
abbrev s__law_at_2 : Stmt := top 29
abbrev N__law_at_2 : List Str := ["_law_base", "_law_begun_here", "_law_spot", "_law_low", "_law_high", "_law_middle"]
abbrev s__law_draw_2 : Stmt := top 24
abbrev N__law_draw_2 : List Str := ["_law_tape_here", "_law_many_here", "_law_turn", "_law_cell", "_law_primes", "_law_prime", "_law_drawn", "_law_digit"]
abbrev s__law_pick_2 : Stmt := top 25
abbrev N__law_pick_2 : List Str := ["_law_tape_here", "_law_some"]
abbrev s__law_begun_3 : Stmt := top 27
abbrev N__law_begun_3 : List Str := ["_law_tape_here", "_law_base", "_law_most", "_law_k"]
abbrev s__law_whole : Stmt := top 33
abbrev N__law_whole : List Str := ["_law_thing"]
abbrev s__law_bent_row : Stmt := top 36
abbrev N__law_bent_row : List Str := ["_law_tape_here", "_law_row", "_law_some", "_law_number", "_law_mark_here", "_law_more", "_law_part"]
abbrev s__law_bent : Stmt := top 37
abbrev N__law_bent : List Str := ["_law_tape_here", "_law_paper_here", "_law_at_here", "_law_way", "_law_two"]
abbrev s__law_many_2 : Stmt := top 26
abbrev N__law_many_2 : List Str := ["_law_tape_here", "_law_figures", "_law_found", "_law_k"]
abbrev s__law_dot : Stmt := top 32
abbrev N__law_dot : List Str := ["_law_one", "_law_other", "_law_left", "_law_right"]
abbrev s__law_shares : Stmt := top 31
abbrev N__law_shares : List Str := ["_law_base", "_law_number", "_law_power", "_law_sign", "_law_rest", "_law_found"]
abbrev s__law_mark : Stmt := top 34
abbrev N__law_mark : List Str := ["_law_base", "_law_marks", "_law_number"]
abbrev s__law_paper_2 : Stmt := top 35
abbrev N__law_paper_2 : List Str := ["_law_base", "_law_marks", "_law_number", "_law_found"]
abbrev s__law_signed : Stmt := top 30
abbrev N__law_signed : List Str := ["_law_tape_here", "_law_figures"]
abbrev s__law_tape : Stmt := top 23
abbrev N__law_tape : List Str := ["_law_script"]
abbrev s_parted : Stmt := top 9
abbrev N_parted : List Str := ["number", "base", "power"]
abbrev s_mark_by : Stmt := top 10
abbrev N_mark_by : List Str := ["base", "marks", "number", "further", "power", "sign", "rest"]
abbrev s_House_base : Stmt := inClass (top 21) 2
abbrev N_House_base : List Str := ["self"]
abbrev s_heap_of : Stmt := top 18
abbrev N_heap_of : List Str := ["number", "base", "found"]
abbrev s_House_ahead_of : Stmt := inClass (top 21) 9
abbrev N_House_ahead_of : List Str := ["self", "power", "exponent", "sign", "base", "number", "signs", "steps", "first"]
abbrev s_House_said : Stmt := inClass (top 21) 10
abbrev N_House_said : List Str := ["self", "place", "wanted", "low", "high", "base", "exponent", "power", "sign", "middle"]
abbrev s_mark_paper_2 : Stmt := top 11
abbrev N_mark_paper_2 : List Str := ["house", "marks", "place", "base", "number", "found"]
abbrev s_is_listing : Stmt := top 7
abbrev N_is_listing : List Str := ["thing"]
abbrev s_is_whole : Stmt := top 4
abbrev N_is_whole : List Str := ["thing"]
abbrev s_are_rows : Stmt := top 12
abbrev N_are_rows : List Str := ["thing", "row", "part"]
abbrev s_follows_row : Stmt := top 13
abbrev N_follows_row : List Str := ["base", "row", "head", "number", "mark", "further", "part", "rest"]
abbrev s_shows_mark : Stmt := top 14
abbrev N_shows_mark : List Str := ["house", "marks", "place", "paper", "base", "at", "number", "mark", "further"]
abbrev s_is_base : Stmt := top 6
abbrev N_is_base : List Str := ["thing"]
abbrev s_is_count : Stmt := top 5
abbrev N_is_count : List Str := ["thing"]
abbrev s_is_beginning : Stmt := top 20
abbrev N_is_beginning : List Str := ["base", "thing", "many"]
abbrev s_House___init__ : Stmt := inClass (top 21) 0
abbrev N_House___init__ : List Str := ["self", "k", "beginning", "many"]
abbrev s_law : Stmt := top 38
abbrev N_law : List Str := ["_law_script", "_law_tape_here", "_law_turn", "_law_base", "_law_begun_here", "_law_bout", "_law_house", "_law_marks", "_law_spot", "_law_told", "_law_things", "_law_more", "_law_thing", "_law_due", "_law_kept", "_law_bent_here", "_law_k", "_law_prior", "_law_is_due"]
structure Tx (K : PySem.W.Frag) (mg : Str → Option Value) (a__law_last_3 a__law_at_2 a__law_draw_2 a__law_pick_2 a__law_begun_3 a__law_whole a__law_bent_row a__law_bent a__law_many_2 a__law_dot a__law_shares a__law_mark a__law_paper_2 a__law_signed a__law_tape a_parted a_mark_by a_House_base a_heap_of a_House_ahead_of a_House_said a_mark_paper_2 a_is_listing a_is_whole a_are_rows a_follows_row a_shows_mark a_is_base a_is_count a_is_beginning a_House___init__ a_law a_House : Addr) (tk_LEAST_BASE tk_MOST_BASE : Tok) : Prop where
  b_abs : mg "abs" = none
  b_all : mg "all" = none
  b_bool : mg "bool" = none
  b_divmod : mg "divmod" = none
  b_int : mg "int" = none
  b_isinstance : mg "isinstance" = none
  b_len : mg "len" = none
  b_list : mg "list" = none
  b_max : mg "max" = none
  b_min : mg "min" = none
  b_range : mg "range" = none
  b_repr : mg "repr" = none
  b_sum : mg "sum" = none
  b_tuple : mg "tuple" = none
  b_zip : mg "zip" = none
  c_LEAST_BASE : mg "LEAST_BASE" = some (Value.int 2 tk_LEAST_BASE)
  c_MOST_BASE : mg "MOST_BASE" = some (Value.int 30 tk_MOST_BASE)
  g__law_last_3 : mg "_law_last" = some (.ref a__law_last_3)
  k__law_last_3 : PySem.W.keepIn K (.ref a__law_last_3) = true
  g__law_at_2 : mg "_law_at" = some (.ref a__law_at_2)
  k__law_at_2 : PySem.W.keepIn K (.ref a__law_at_2) = true
  g__law_draw_2 : mg "_law_draw" = some (.ref a__law_draw_2)
  k__law_draw_2 : PySem.W.keepIn K (.ref a__law_draw_2) = true
  g__law_pick_2 : mg "_law_pick" = some (.ref a__law_pick_2)
  k__law_pick_2 : PySem.W.keepIn K (.ref a__law_pick_2) = true
  g__law_begun_3 : mg "_law_begun" = some (.ref a__law_begun_3)
  k__law_begun_3 : PySem.W.keepIn K (.ref a__law_begun_3) = true
  g__law_whole : mg "_law_whole" = some (.ref a__law_whole)
  k__law_whole : PySem.W.keepIn K (.ref a__law_whole) = true
  g__law_bent_row : mg "_law_bent_row" = some (.ref a__law_bent_row)
  k__law_bent_row : PySem.W.keepIn K (.ref a__law_bent_row) = true
  g__law_bent : mg "_law_bent" = some (.ref a__law_bent)
  k__law_bent : PySem.W.keepIn K (.ref a__law_bent) = true
  g__law_many_2 : mg "_law_many" = some (.ref a__law_many_2)
  k__law_many_2 : PySem.W.keepIn K (.ref a__law_many_2) = true
  g__law_dot : mg "_law_dot" = some (.ref a__law_dot)
  k__law_dot : PySem.W.keepIn K (.ref a__law_dot) = true
  g__law_shares : mg "_law_shares" = some (.ref a__law_shares)
  k__law_shares : PySem.W.keepIn K (.ref a__law_shares) = true
  g__law_mark : mg "_law_mark" = some (.ref a__law_mark)
  k__law_mark : PySem.W.keepIn K (.ref a__law_mark) = true
  g__law_paper_2 : mg "_law_paper" = some (.ref a__law_paper_2)
  k__law_paper_2 : PySem.W.keepIn K (.ref a__law_paper_2) = true
  g__law_signed : mg "_law_signed" = some (.ref a__law_signed)
  k__law_signed : PySem.W.keepIn K (.ref a__law_signed) = true
  g__law_tape : mg "_law_tape" = some (.ref a__law_tape)
  k__law_tape : PySem.W.keepIn K (.ref a__law_tape) = true
  g_parted : mg "parted" = some (.ref a_parted)
  k_parted : PySem.W.keepIn K (.ref a_parted) = true
  g_mark_by : mg "mark_by" = some (.ref a_mark_by)
  k_mark_by : PySem.W.keepIn K (.ref a_mark_by) = true
  g_heap_of : mg "heap_of" = some (.ref a_heap_of)
  k_heap_of : PySem.W.keepIn K (.ref a_heap_of) = true
  g_mark_paper_2 : mg "mark_paper" = some (.ref a_mark_paper_2)
  k_mark_paper_2 : PySem.W.keepIn K (.ref a_mark_paper_2) = true
  g_is_listing : mg "is_listing" = some (.ref a_is_listing)
  k_is_listing : PySem.W.keepIn K (.ref a_is_listing) = true
  g_is_whole : mg "is_whole" = some (.ref a_is_whole)
  k_is_whole : PySem.W.keepIn K (.ref a_is_whole) = true
  g_are_rows : mg "are_rows" = some (.ref a_are_rows)
  k_are_rows : PySem.W.keepIn K (.ref a_are_rows) = true
  g_follows_row : mg "follows_row" = some (.ref a_follows_row)
  k_follows_row : PySem.W.keepIn K (.ref a_follows_row) = true
  g_shows_mark : mg "shows_mark" = some (.ref a_shows_mark)
  k_shows_mark : PySem.W.keepIn K (.ref a_shows_mark) = true
  g_is_base : mg "is_base" = some (.ref a_is_base)
  k_is_base : PySem.W.keepIn K (.ref a_is_base) = true
  g_is_count : mg "is_count" = some (.ref a_is_count)
  k_is_count : PySem.W.keepIn K (.ref a_is_count) = true
  g_is_beginning : mg "is_beginning" = some (.ref a_is_beginning)
  k_is_beginning : PySem.W.keepIn K (.ref a_is_beginning) = true
  g_law : mg "law" = some (.ref a_law)
  k_law : PySem.W.keepIn K (.ref a_law) = true
  g_House : mg "House" = some (.ref a_House)
  cl_House : Cls K a_House
  n_House_kept_base : NoAttr K a_House "kept_base"
  n_House_kept_beginning : NoAttr K a_House "kept_beginning"
  n_House_sums : NoAttr K a_House "sums"
  m_House_base : Meth K a_House "base" a_House_base
  m_House_ahead_of : Meth K a_House "ahead_of" a_House_ahead_of
  m_House_said : Meth K a_House "said" a_House_said
  mk_House : Mk K a_House a_House___init__
section
variable {P : Program} {w : World} {K : PySem.W.Frag} {mg : Str → Option Value} {base : Heap} {a__law_last_3 a__law_at_2 a__law_draw_2 a__law_pick_2 a__law_begun_3 a__law_whole a__law_bent_row a__law_bent a__law_many_2 a__law_dot a__law_shares a__law_mark a__law_paper_2 a__law_signed a__law_tape a_parted a_mark_by a_House_base a_heap_of a_House_ahead_of a_House_said a_mark_paper_2 a_is_listing a_is_whole a_are_rows a_follows_row a_shows_mark a_is_base a_is_count a_is_beginning a_House___init__ a_law a_House : Addr} {tk_LEAST_BASE tk_MOST_BASE : Tok}
theorem sc__law_last_3 : FnScope N__law_last_3 ["_law_base", "_law_begun_here", "_law_number"] (defScope s__law_last_3) := ⟨rfl, rfl, rfl, by decide +kernel, rfl, by decide +kernel, by decide +kernel⟩
theorem ok__law_last_3 {fd : FuncData} (F : Fun K "_law_last" "_law_last" s__law_last_3 a__law_last_3 fd) (T : Tx K mg a__law_last_3 a__law_at_2 a__law_draw_2 a__law_pick_2 a__law_begun_3 a__law_whole a__law_bent_row a__law_bent a__law_many_2 a__law_dot a__law_shares a__law_mark a__law_paper_2 a__law_signed a__law_tape a_parted a_mark_by a_House_base a_heap_of a_House_ahead_of a_House_said a_mark_paper_2 a_is_listing a_is_whole a_are_rows a_follows_row a_shows_mark a_is_base a_is_count a_is_beginning a_House___init__ a_law a_House tk_LEAST_BASE tk_MOST_BASE) : FnOk P w K mg base CX0 1 a__law_last_3 fd ["_law_base", "_law_begun_here", "_law_number"] (lift K (sp__law_last_3)) := by
  refine fn_ok (ds := d__law_last_3) F sc__law_last_3 (len__law_last_3) (fun cdv A outer s H E B hr hB hm => ?_) (d__law_last_3_ok)
  exact (q_cons (q_par3 (i := 3) (j := 4) (l := 5) rfl sc__law_last_3.nd rfl rfl rfl (by decide) (by decide) (by decide) rfl rfl rfl (q_acons (q_var (pv 2)) (q_acons (q_var (pv 0)) (q_acons q_int q_anil))) (by rfl)) (q_cons (q_while PassesOwn.never (q_tcmp op_le rop_le (toV (q_var (pv 4))) (toV (q_var (pv 2))) (nomark _)) (q_cons (q_set (i := 3) sc__law_last_3.nd rfl (Or.inl rfl) (q_op op_add4 rop_add (toV (q_var (pv 3))) (toV (q_op op_fdivW rop_div (toV (q_var (pv 2))) (toV (q_var (pv 4))))))) (q_cons (q_par (i := 4) (j := 5) rfl sc__law_last_3.nd rfl rfl (by decide) rfl rfl (q_acons (q_op op_mul3 rop_mul (toV (q_var (pv 4))) (toV (q_var (pv 0)))) (q_acons (q_op op_add4 rop_add (toV (q_var (pv 5))) (toV q_int)) q_anil)) (by rfl)) q_nil))) (q_cons (q_par (i := 6) (j := 7) rfl sc__law_last_3.nd rfl rfl (by decide) rfl rfl (q_acons (q_op op_fdivW rop_div (toV (q_op op_mul3 rop_mul (toV (q_var (pv 2))) (toV (q_var (pv 0))))) (toV (q_var (pv 4)))) (q_acons (q_op op_add4 rop_add (toV (q_op op_sub rop_sub (toV (q_callB (cr_sum rfl) rc_sum (by rfl) T.b_sum (by decide +kernel) (q_xcons (toV (q_var (pv 1))) q_xnil))) (toV (q_var (pv 0))))) (toV q_int)) q_anil)) (by rfl)) (q_cons (q_ret hm (q_op op_sub rop_sub (toV (q_op op_add4 rop_add (toV (q_op op_add4 rop_add (toV (q_var (pv 3))) (toV (q_op op_mul3 rop_mul (toV (q_var (pv 5))) (toV (q_var (pv 7))))))) (toV (q_callB (cr_sum rfl) rc_sum (by rfl) T.b_sum (by decide +kernel) (q_xcons (toV (q_slice (toV (q_var (pv 1))) q_onone (q_osome (toV (q_var (pv 6)))))) q_xnil))))) (toV (q_var (pv 6))))) q_nil))))
theorem sc__law_at_2 : FnScope N__law_at_2 ["_law_base", "_law_begun_here", "_law_spot"] (defScope s__law_at_2) := ⟨rfl, rfl, rfl, by decide +kernel, rfl, by decide +kernel, by decide +kernel⟩
theorem ok__law_at_2 {fd fd__law_last_3 : FuncData} (F : Fun K "_law_at" "_law_at" s__law_at_2 a__law_at_2 fd) (T : Tx K mg a__law_last_3 a__law_at_2 a__law_draw_2 a__law_pick_2 a__law_begun_3 a__law_whole a__law_bent_row a__law_bent a__law_many_2 a__law_dot a__law_shares a__law_mark a__law_paper_2 a__law_signed a__law_tape a_parted a_mark_by a_House_base a_heap_of a_House_ahead_of a_House_said a_mark_paper_2 a_is_listing a_is_whole a_are_rows a_follows_row a_shows_mark a_is_base a_is_count a_is_beginning a_House___init__ a_law a_House tk_LEAST_BASE tk_MOST_BASE) (G__law_last_3 : FnOk P w K mg base CX0 1 a__law_last_3 fd__law_last_3 ["_law_base", "_law_begun_here", "_law_number"] (lift K (sp__law_last_3))) (b__law_last_3 : Binds K fd__law_last_3 ["_law_base", "_law_begun_here", "_law_number"] []) : FnOk P w K mg base CX0 2 a__law_at_2 fd ["_law_base", "_law_begun_here", "_law_spot"] (lift K (sp__law_at_2)) := by
  refine fn_ok (ds := d__law_at_2) F sc__law_at_2 (len__law_at_2) (fun cdv A outer s H E B hr hB hm => ?_) (d__law_at_2_ok)
  exact (q_cons (q_par (i := 3) (j := 4) rfl sc__law_at_2.nd rfl rfl (by decide) rfl rfl (q_acons q_int (q_acons (q_var (pv 2)) q_anil)) (by rfl)) (q_cons (q_while PassesOwn.never (q_tcmp op_gt rop_gt (toV (q_op op_sub rop_sub (toV (q_var (pv 4))) (toV (q_var (pv 3))))) (toV q_int) (nomark _)) (q_cons (q_set (i := 5) sc__law_at_2.nd rfl (Or.inl rfl) (q_op op_fdivW rop_div (toV (q_op op_add4 rop_add (toV (q_var (pv 3))) (toV (q_var (pv 4))))) (toV q_int))) (q_cons (q_if (q_tcmp op_lt rop_lt (toV (q_call G__law_last_3 (hr.mono (by decide)) rfl T.g__law_last_3 T.k__law_last_3 b__law_last_3 .nil (fun _ _ => RelL.nil) pass0 (q_acons (q_var (pv 0)) (q_acons (q_var (pv 1)) (q_acons (q_var (pv 5)) q_anil))))) (toV (q_var (pv 2))) (nomark _)) (q_cons (q_set (i := 3) sc__law_at_2.nd rfl (Or.inl rfl) (q_var (pv 5))) q_nil) (q_cons (q_set (i := 4) sc__law_at_2.nd rfl (Or.inl rfl) (q_var (pv 5))) q_nil)) q_nil))) (q_cons (q_ret hm (q_var (pv 4))) q_nil)))
theorem sc__law_draw_2 : FnScope N__law_draw_2 ["_law_tape_here", "_law_many_here"] (defScope s__law_draw_2) := ⟨rfl, rfl, rfl, by decide +kernel, rfl, by decide +kernel, by decide +kernel⟩
theorem ok__law_draw_2 {fd : FuncData} (F : Fun K "_law_draw" "_law_draw" s__law_draw_2 a__law_draw_2 fd) (T : Tx K mg a__law_last_3 a__law_at_2 a__law_draw_2 a__law_pick_2 a__law_begun_3 a__law_whole a__law_bent_row a__law_bent a__law_many_2 a__law_dot a__law_shares a__law_mark a__law_paper_2 a__law_signed a__law_tape a_parted a_mark_by a_House_base a_heap_of a_House_ahead_of a_House_said a_mark_paper_2 a_is_listing a_is_whole a_are_rows a_follows_row a_shows_mark a_is_base a_is_count a_is_beginning a_House___init__ a_law a_House tk_LEAST_BASE tk_MOST_BASE) : FnOk P w K mg base CX0 1 a__law_draw_2 fd ["_law_tape_here", "_law_many_here"] (lift K (sp__law_draw_2)) := by
  refine fn_ok (ds := d__law_draw_2) F sc__law_draw_2 (len__law_draw_2) (fun cdv A outer s H E B hr hB hm => ?_) (d__law_draw_2_ok)
  exact (q_cons (q_if (q_tcmp op_gt rop_gt (toV (q_penL (b := true) (hu_of hr) (toV (q_var (pv 0))) (by rfl) (fun _ _ => rfl))) (toV q_int) (nomark _)) (q_cons (q_set (i := 7) sc__law_draw_2.nd rfl (Or.inl rfl) (q_op op_mod rop_mod (toV (q_penL (b := true) (hu_of hr) (toV (q_var (pv 0))) (by rfl) (fun _ _ => rfl))) (toV (q_var (pv 1))))) (q_cons (q_putL (b := true) (i := 0) (hu_of hr) (pv 0) (q_op op_fdivW rop_div (toV (q_penL (b := true) (hu_of hr) (toV (q_var (pv 0))) (by rfl) (fun _ _ => rfl))) (toV (q_var (pv 1)))) (by rfl)) (q_cons (q_ret hm (q_var (pv 7))) q_nil))) q_nil) (q_cons (q_set (i := 2) sc__law_draw_2.nd rfl (Or.inl rfl) (q_penA (b := true) (hu_of hr) (toV (q_var (pv 0))) (by rfl) (fun _ _ => rfl))) (q_cons (q_putA (b := true) (i := 0) (hu_of hr) (pv 0) (q_op op_add4 rop_add (toV (q_var (pv 2))) (toV q_int)) (by rfl)) (q_cons (q_set (i := 3) sc__law_draw_2.nd rfl (Or.inl rfl) (q_op op_add4 rop_add (toV (q_op op_mul3 rop_mul (toV q_int) (toV (q_var (pv 2))))) (toV q_int))) (q_cons (q_if (q_tcmp (op_neD hr.units) rop_ne (toV (q_penC (hu_of hr) (toV (q_var (pv 0))) (fun _ _ => rfl))) (toV (toE (q_lst q_anil))) (nomark _)) (q_cons (q_set (i := 3) sc__law_draw_2.nd rfl (Or.inl rfl) (q_ix (toV (q_penC (hu_of hr) (toV (q_var (pv 0))) (fun _ _ => rfl))) (toV (q_op op_mod rop_mod (toV (q_var (pv 2))) (toV (q_callB call_len3 rc_len (by rfl) T.b_len (by decide +kernel) (q_xcons (toV (q_penC (hu_of hr) (toV (q_var (pv 0))) (fun _ _ => rfl))) q_xnil))))) (fun _ _ => rfl))) q_nil) q_nil) (q_cons (q_if (L2.PW.pt (q_and (q_tcmp op_lt rop_lt (toV (q_var (pv 2))) (toV (q_callB call_len3 rc_len (by rfl) T.b_len (by decide +kernel) (q_xcons (toV (q_penC (hu_of hr) (toV (q_var (pv 0))) (fun _ _ => rfl))) q_xnil))) (nomark _)) (q_and1 (q_tcmp op_ge rop_ge (toV (q_callB call_abs rc_abs (by rfl) T.b_abs (by decide +kernel) (q_xcons (toV (q_var (pv 3))) q_xnil))) (toV (q_op op_powW rop_pow (toV q_int) (toV q_int))) (nomark _))))) (q_cons (q_putL (b := true) (i := 0) (hu_of hr) (pv 0) (q_op op_fdivW rop_div (toV (q_op op_sub rop_sub (toV (q_callB call_abs rc_abs (by rfl) T.b_abs (by decide +kernel) (q_xcons (toV (q_var (pv 3))) q_xnil))) (toV (q_op op_powW rop_pow (toV q_int) (toV q_int))))) (toV (q_var (pv 1)))) (by rfl)) (q_cons (q_ret hm (q_op op_mod rop_mod (toV (q_op op_sub rop_sub (toV (q_callB call_abs rc_abs (by rfl) T.b_abs (by decide +kernel) (q_xcons (toV (q_var (pv 3))) q_xnil))) (toV (q_op op_powW rop_pow (toV q_int) (toV q_int))))) (toV (q_var (pv 1))))) q_nil)) q_nil) (q_cons (q_set (i := 4) sc__law_draw_2.nd rfl (Or.inl rfl) (toE (q_lst (q_acons q_int (q_acons q_int (q_acons q_int (q_acons q_int (q_acons q_int q_anil)))))))) (q_cons (q_set (i := 5) sc__law_draw_2.nd rfl (Or.inl rfl) (q_ix (toV (q_var (pv 4))) (toV (q_op op_mod rop_mod (toV (q_var (pv 2))) (toV q_int))) (fun _ _ => rfl))) (q_cons (q_set (i := 6) sc__law_draw_2.nd rfl (Or.inl rfl) (q_op op_mod rop_mod (toV (q_op op_add4 rop_add (toV (q_op op_add4 rop_add (toV (q_op op_mul3 rop_mul (toV (q_op op_mod rop_mod (toV (q_var (pv 3))) (toV (q_var (pv 5))))) (toV q_int))) (toV (q_op op_mul3 rop_mul (toV (q_op op_mul3 rop_mul (toV q_int) (toV (q_var (pv 2))))) (toV (q_var (pv 2))))))) (toV q_int))) (toV (q_var (pv 5))))) (q_cons (q_set (i := 6) sc__law_draw_2.nd rfl (Or.inl rfl) (q_op op_mod rop_mod (toV (q_op op_mul3 rop_mul (toV (q_var (pv 6))) (toV (q_op op_add4 rop_add (toV (q_var (pv 6))) (toV q_int))))) (toV (q_ix (toV (q_var (pv 4))) (toV (q_op op_mod rop_mod (toV (q_op op_add4 rop_add (toV (q_var (pv 2))) (toV q_int))) (toV q_int))) (fun _ _ => rfl))))) (q_cons (q_ret hm (q_op op_mod rop_mod (toV (q_op op_fdivW rop_div (toV (q_op op_mod rop_mod (toV (q_op op_mul3 rop_mul (toV (q_var (pv 6))) (toV (q_var (pv 6))))) (toV q_int))) (toV q_int))) (toV (q_var (pv 1))))) q_nil)))))))))))
theorem sc__law_pick_2 : FnScope N__law_pick_2 ["_law_tape_here", "_law_some"] (defScope s__law_pick_2) := ⟨rfl, rfl, rfl, by decide +kernel, rfl, by decide +kernel, by decide +kernel⟩
theorem ok__law_pick_2 {fd fd__law_draw_2 : FuncData} (F : Fun K "_law_pick" "_law_pick" s__law_pick_2 a__law_pick_2 fd) (T : Tx K mg a__law_last_3 a__law_at_2 a__law_draw_2 a__law_pick_2 a__law_begun_3 a__law_whole a__law_bent_row a__law_bent a__law_many_2 a__law_dot a__law_shares a__law_mark a__law_paper_2 a__law_signed a__law_tape a_parted a_mark_by a_House_base a_heap_of a_House_ahead_of a_House_said a_mark_paper_2 a_is_listing a_is_whole a_are_rows a_follows_row a_shows_mark a_is_base a_is_count a_is_beginning a_House___init__ a_law a_House tk_LEAST_BASE tk_MOST_BASE) (G__law_draw_2 : FnOk P w K mg base CX0 1 a__law_draw_2 fd__law_draw_2 ["_law_tape_here", "_law_many_here"] (lift K (sp__law_draw_2))) (b__law_draw_2 : Binds K fd__law_draw_2 ["_law_tape_here", "_law_many_here"] []) : FnOk P w K mg base CX0 2 a__law_pick_2 fd ["_law_tape_here", "_law_some"] (lift K (sp__law_pick_2)) := by
  refine fn_ok (ds := d__law_pick_2) F sc__law_pick_2 (len__law_pick_2) (fun cdv A outer s H E B hr hB hm => ?_) (d__law_pick_2_ok)
  exact (q_cons (q_ret hm (q_ix (toV (q_var (pv 1))) (toV (q_call G__law_draw_2 (hr.mono (by decide)) rfl T.g__law_draw_2 T.k__law_draw_2 b__law_draw_2 .nil (fun _ _ => RelL.nil) pass0 (q_acons (q_var (pv 0)) (q_acons (q_callB call_len3 rc_len (by rfl) T.b_len (by decide +kernel) (q_xcons (toV (q_var (pv 1))) q_xnil)) q_anil)))) (fun _ _ => rfl))) q_nil)
theorem sc__law_begun_3 : FnScope N__law_begun_3 ["_law_tape_here", "_law_base", "_law_most"] (defScope s__law_begun_3) := ⟨rfl, rfl, rfl, by decide +kernel, rfl, by decide +kernel, by decide +kernel⟩
theorem ok__law_begun_3 {fd fd__law_draw_2 fd__law_pick_2 : FuncData} (F : Fun K "_law_begun" "_law_begun" s__law_begun_3 a__law_begun_3 fd) (T : Tx K mg a__law_last_3 a__law_at_2 a__law_draw_2 a__law_pick_2 a__law_begun_3 a__law_whole a__law_bent_row a__law_bent a__law_many_2 a__law_dot a__law_shares a__law_mark a__law_paper_2 a__law_signed a__law_tape a_parted a_mark_by a_House_base a_heap_of a_House_ahead_of a_House_said a_mark_paper_2 a_is_listing a_is_whole a_are_rows a_follows_row a_shows_mark a_is_base a_is_count a_is_beginning a_House___init__ a_law a_House tk_LEAST_BASE tk_MOST_BASE) (G__law_draw_2 : FnOk P w K mg base CX0 1 a__law_draw_2 fd__law_draw_2 ["_law_tape_here", "_law_many_here"] (lift K (sp__law_draw_2))) (b__law_draw_2 : Binds K fd__law_draw_2 ["_law_tape_here", "_law_many_here"] []) (G__law_pick_2 : FnOk P w K mg base CX0 2 a__law_pick_2 fd__law_pick_2 ["_law_tape_here", "_law_some"] (lift K (sp__law_pick_2))) (b__law_pick_2 : Binds K fd__law_pick_2 ["_law_tape_here", "_law_some"] []) : FnOk P w K mg base CX0 3 a__law_begun_3 fd ["_law_tape_here", "_law_base", "_law_most"] (lift K (sp__law_begun_3)) := by
  refine fn_ok (ds := d__law_begun_3) F sc__law_begun_3 (len__law_begun_3) (fun cdv A outer s H E B hr hB hm => ?_) (d__law_begun_3_ok)
  exact (q_cons (q_ret hm (toE (q_lc (own := [("_law_k", 3)]) rfl sc__law_begun_3.nd (q_irng1 (by rfl) T.b_range (toV (q_op op_sub rop_sub (toV (q_var (pv 1))) (toV q_int)))) (blkOk_by (N := N__law_begun_3) (sc := defScope s__law_begun_3) (own := [("_law_k", 3)]) (by decide +kernel)) (fun _ _ _ _ _ B => (q_gname (vs := [3]) (pg_name (i := 3) sc__law_begun_3.nd rfl (Or.inl rfl)) (by decide))) (fun _ _ _ _ _ => pts_U0) (fun _ _ _ _ _ B => (q_op op_add4 rop_add (toV q_int) (toV (q_call G__law_pick_2 (hr.mono (by decide)) rfl T.g__law_pick_2 T.k__law_pick_2 b__law_pick_2 .nil (fun _ _ => RelL.nil) pass0 (q_acons (q_var (pv 0)) (q_acons (toE (q_lst (q_acons q_int (q_acons (q_call G__law_draw_2 (hr.mono (by decide)) rfl T.g__law_draw_2 T.k__law_draw_2 b__law_draw_2 .nil (fun _ _ => RelL.nil) pass0 (q_acons (q_var (pv 0)) (q_acons q_int q_anil))) (q_acons (q_call G__law_draw_2 (hr.mono (by decide)) rfl T.g__law_draw_2 T.k__law_draw_2 b__law_draw_2 .nil (fun _ _ => RelL.nil) pass0 (q_acons (q_var (pv 0)) (q_acons (q_var (pv 2)) q_anil))) q_anil))))) q_anil))))))))) q_nil)
theorem sc__law_whole : FnScope N__law_whole ["_law_thing"] (defScope s__law_whole) := ⟨rfl, rfl, rfl, by decide +kernel, rfl, by decide +kernel, by decide +kernel⟩
theorem ok__law_whole {fd : FuncData} (F : Fun K "_law_whole" "_law_whole" s__law_whole a__law_whole fd) (T : Tx K mg a__law_last_3 a__law_at_2 a__law_draw_2 a__law_pick_2 a__law_begun_3 a__law_whole a__law_bent_row a__law_bent a__law_many_2 a__law_dot a__law_shares a__law_mark a__law_paper_2 a__law_signed a__law_tape a_parted a_mark_by a_House_base a_heap_of a_House_ahead_of a_House_said a_mark_paper_2 a_is_listing a_is_whole a_are_rows a_follows_row a_shows_mark a_is_base a_is_count a_is_beginning a_House___init__ a_law a_House tk_LEAST_BASE tk_MOST_BASE) : FnOk P w K mg base CX0 1 a__law_whole fd ["_law_thing"] (lift K (sp__law_whole)) := by
  refine fn_ok (ds := d__law_whole) F sc__law_whole (len__law_whole) (fun cdv A outer s H E B hr hB hm => ?_) (d__law_whole_ok)
  exact (q_cons (q_ret hm (q_andV (q_isi (c := .int) (toV (q_var (pv 0))) rfl T.b_isinstance rfl T.b_int (by rfl)) (q_one (q_notV (q_isi (c := .bl) (toV (q_var (pv 0))) rfl T.b_isinstance rfl T.b_bool (by rfl)))))) q_nil)
theorem sc__law_bent_row : FnScope N__law_bent_row ["_law_tape_here", "_law_row"] (defScope s__law_bent_row) := ⟨rfl, rfl, rfl, by decide +kernel, rfl, by decide +kernel, by decide +kernel⟩
theorem ok__law_bent_row {fd fd__law_pick_2 fd__law_whole : FuncData} (F : Fun K "_law_bent_row" "_law_bent_row" s__law_bent_row a__law_bent_row fd) (T : Tx K mg a__law_last_3 a__law_at_2 a__law_draw_2 a__law_pick_2 a__law_begun_3 a__law_whole a__law_bent_row a__law_bent a__law_many_2 a__law_dot a__law_shares a__law_mark a__law_paper_2 a__law_signed a__law_tape a_parted a_mark_by a_House_base a_heap_of a_House_ahead_of a_House_said a_mark_paper_2 a_is_listing a_is_whole a_are_rows a_follows_row a_shows_mark a_is_base a_is_count a_is_beginning a_House___init__ a_law a_House tk_LEAST_BASE tk_MOST_BASE) (G__law_pick_2 : FnOk P w K mg base CX0 2 a__law_pick_2 fd__law_pick_2 ["_law_tape_here", "_law_some"] (lift K (sp__law_pick_2))) (b__law_pick_2 : Binds K fd__law_pick_2 ["_law_tape_here", "_law_some"] []) (G__law_whole : FnOk P w K mg base CX0 1 a__law_whole fd__law_whole ["_law_thing"] (lift K (sp__law_whole))) (b__law_whole : Binds K fd__law_whole ["_law_thing"] []) : FnOk P w K mg base CX0 3 a__law_bent_row fd ["_law_tape_here", "_law_row"] (lift K (sp__law_bent_row)) := by
  refine fn_ok (ds := d__law_bent_row) F sc__law_bent_row (len__law_bent_row) (fun cdv A outer s H E B hr hB hm => ?_) (d__law_bent_row_ok)
  exact (q_cons (q_if (L2.PW.pt (q_or (q_not (q_tval (q_isi (c := .tup) (toV (q_var (pv 1))) rfl T.b_isinstance rfl T.b_tuple (by rfl)))) (q_or (q_tcmp (op_neD hr.units) rop_ne (toV (q_callB call_len3 rc_len (by rfl) T.b_len (by decide +kernel) (q_xcons (toV (q_var (pv 1))) q_xnil))) (toV q_int) (nomark _)) (q_or1 (q_tcmp (op_neD hr.units) rop_ne (toV (toE (q_lc (own := [("_law_part", 6)]) rfl sc__law_bent_row.nd (q_iany (q_var (pv 1))) (blkOk_by (N := N__law_bent_row) (sc := defScope s__law_bent_row) (own := [("_law_part", 6)]) (by decide +kernel)) (fun _ _ _ _ _ B => (q_gname (vs := [6]) (pg_name (i := 6) sc__law_bent_row.nd rfl (Or.inl rfl)) (by decide))) (fun _ _ _ _ _ => pts_U1 fun B => (q_not (q_tval (q_call G__law_whole (hr.mono (by decide)) rfl T.g__law_whole T.k__law_whole b__law_whole .nil (fun _ _ => RelL.nil) pass0 (q_acons (q_var (pv 6)) q_anil))))) (fun _ _ _ _ _ B => (q_var (pv 6)))))) (toV (toE (q_lst q_anil))) (nomark _)))))) (q_cons (q_ret hm q_non) q_nil) q_nil) (q_cons (q_asg (q_var (pv 1)) (q_gtup (n := 3) rfl (q_gcons (q_gname (vs := [3, 4, 5]) (pg_name (i := 3) sc__law_bent_row.nd rfl (Or.inl rfl)) (by decide)) (q_gcons (q_gname (vs := [3, 4, 5]) (pg_name (i := 4) sc__law_bent_row.nd rfl (Or.inl rfl)) (by decide)) (q_gcons (q_gname (vs := [3, 4, 5]) (pg_name (i := 5) sc__law_bent_row.nd rfl (Or.inl rfl)) (by decide)) q_gnil))))) (q_cons (q_set (i := 2) sc__law_bent_row.nd rfl (Or.inl rfl) (toE (q_lst (q_acons (q_tup (q_acons (q_op op_add4 rop_add (toV (q_var (pv 3))) (toV q_int)) (q_acons (q_var (pv 4)) (q_acons (q_var (pv 5)) q_anil)))) (q_acons (q_tup (q_acons (q_var (pv 3)) (q_acons (q_op op_add4 rop_add (toV (q_var (pv 4))) (toV q_int)) (q_acons (q_var (pv 5)) q_anil)))) (q_acons (q_tup (q_acons (q_var (pv 3)) (q_acons (q_var (pv 4)) (q_acons (q_op op_sub rop_sub (toV (q_var (pv 5))) (toV q_int)) q_anil)))) (q_acons (q_tup (q_acons (q_var (pv 3)) (q_acons (q_var (pv 5)) (q_acons (q_var (pv 4)) q_anil)))) (q_acons (q_slice (toV (q_var (pv 1))) q_onone (q_osome (toV q_int))) q_anil)))))))) (q_cons (q_set (i := 2) sc__law_bent_row.nd rfl (Or.inl rfl) (q_op op_add4 rop_add (toV (q_var (pv 2))) (toV (toE (q_lst (q_acons (toE (q_callTyN call_list_of rc_list (by rfl) T.b_list (by decide +kernel) (q_xcons (toV (q_var (pv 1))) q_xnil))) (q_acons (q_op op_add4 rop_add (toV (q_var (pv 1))) (toV (q_tup (q_acons q_int q_anil)))) (q_acons (q_tup (q_acons (q_var (pv 3)) (q_acons (q_cmp (op_eqD hr.units) rop_eq (toV (q_var (pv 4))) (toV q_int) (nomark _)) (q_acons (q_var (pv 5)) q_anil)))) (q_acons (q_tup (q_acons (q_cmp (op_eqD hr.units) rop_eq (toV (q_var (pv 3))) (toV q_int) (nomark _)) (q_acons (q_var (pv 4)) (q_acons (q_var (pv 5)) q_anil)))) (q_acons q_non q_anil)))))))))) (q_cons (q_set (i := 2) sc__law_bent_row.nd rfl (Or.inl rfl) (q_op op_add4 rop_add (toV (q_var (pv 2))) (toV (toE (q_lst (q_acons (q_tup (q_acons (q_var (pv 3)) (q_acons q_str (q_acons (q_var (pv 5)) q_anil)))) (q_acons (q_tup (q_acons (q_var (pv 3)) (q_acons (q_op op_sub rop_sub (toV q_int) (toV (q_var (pv 4)))) (q_acons (q_var (pv 5)) q_anil)))) (q_acons (q_tup (q_acons (q_tup (q_acons (q_var (pv 3)) q_anil)) (q_acons (q_var (pv 4)) (q_acons (q_var (pv 5)) q_anil)))) (q_acons (q_tup (q_acons (q_var (pv 3)) (q_acons (q_var (pv 4)) (q_acons q_non q_anil)))) q_anil))))))))) (q_cons (q_ret hm (q_call G__law_pick_2 (hr.mono (by decide)) rfl T.g__law_pick_2 T.k__law_pick_2 b__law_pick_2 .nil (fun _ _ => RelL.nil) pass0 (q_acons (q_var (pv 0)) (q_acons (q_var (pv 2)) q_anil)))) q_nil))))))
theorem sc__law_bent : FnScope N__law_bent ["_law_tape_here", "_law_paper_here"] (defScope s__law_bent) := ⟨rfl, rfl, rfl, by decide +kernel, rfl, by decide +kernel, by decide +kernel⟩
theorem ok__law_bent {fd fd__law_bent_row fd__law_draw_2 : FuncData} (F : Fun K "_law_bent" "_law_bent" s__law_bent a__law_bent fd) (T : Tx K mg a__law_last_3 a__law_at_2 a__law_draw_2 a__law_pick_2 a__law_begun_3 a__law_whole a__law_bent_row a__law_bent a__law_many_2 a__law_dot a__law_shares a__law_mark a__law_paper_2 a__law_signed a__law_tape a_parted a_mark_by a_House_base a_heap_of a_House_ahead_of a_House_said a_mark_paper_2 a_is_listing a_is_whole a_are_rows a_follows_row a_shows_mark a_is_base a_is_count a_is_beginning a_House___init__ a_law a_House tk_LEAST_BASE tk_MOST_BASE) (G__law_bent_row : FnOk P w K mg base CX0 3 a__law_bent_row fd__law_bent_row ["_law_tape_here", "_law_row"] (lift K (sp__law_bent_row))) (b__law_bent_row : Binds K fd__law_bent_row ["_law_tape_here", "_law_row"] []) (G__law_draw_2 : FnOk P w K mg base CX0 1 a__law_draw_2 fd__law_draw_2 ["_law_tape_here", "_law_many_here"] (lift K (sp__law_draw_2))) (b__law_draw_2 : Binds K fd__law_draw_2 ["_law_tape_here", "_law_many_here"] []) : FnOk P w K mg base CX0 4 a__law_bent fd ["_law_tape_here", "_law_paper_here"] (lift K (sp__law_bent)) := by
  refine fn_ok (ds := d__law_bent) F sc__law_bent (len__law_bent) (fun cdv A outer s H E B hr hB hm => ?_) (d__law_bent_ok)
  exact (q_cons (q_par (i := 2) (j := 3) rfl sc__law_bent.nd rfl rfl (by decide) rfl rfl (q_acons (q_call G__law_draw_2 (hr.mono (by decide)) rfl T.g__law_draw_2 T.k__law_draw_2 b__law_draw_2 .nil (fun _ _ => RelL.nil) pass0 (q_acons (q_var (pv 0)) (q_acons (q_callB call_len3 rc_len (by rfl) T.b_len (by decide +kernel) (q_xcons (toV (q_var (pv 1))) q_xnil)) q_anil))) (q_acons (q_call G__law_draw_2 (hr.mono (by decide)) rfl T.g__law_draw_2 T.k__law_draw_2 b__law_draw_2 .nil (fun _ _ => RelL.nil) pass0 (q_acons (q_var (pv 0)) (q_acons q_int q_anil))) q_anil)) (by rfl)) (q_cons (q_if (q_tcmp (op_eqD hr.units) rop_eq (toV (q_var (pv 3))) (toV q_int) (nomark _)) (q_cons (q_ret hm (q_op op_add4 rop_add (toV (q_slice (toV (q_var (pv 1))) q_onone (q_osome (toV (q_var (pv 2)))))) (toV (q_slice (toV (q_var (pv 1))) (q_osome (toV (q_op op_add4 rop_add (toV (q_var (pv 2))) (toV q_int)))) q_onone)))) q_nil) q_nil) (q_cons (q_if (q_tcmp (op_eqD hr.units) rop_eq (toV (q_var (pv 3))) (toV q_int) (nomark _)) (q_cons (q_ret hm (q_op op_add4 rop_add (toV (q_slice (toV (q_var (pv 1))) q_onone (q_osome (toV (q_op op_add4 rop_add (toV (q_var (pv 2))) (toV q_int)))))) (toV (q_slice (toV (q_var (pv 1))) (q_osome (toV (q_var (pv 2)))) q_onone)))) q_nil) q_nil) (q_cons (q_if (q_tcmp (op_eqD hr.units) rop_eq (toV (q_var (pv 3))) (toV q_int) (nomark _)) (q_cons (q_set (i := 4) sc__law_bent.nd rfl (Or.inl rfl) (toE (q_rev (toV (q_slice (toV (q_var (pv 1))) (q_osome (toV (q_var (pv 2)))) (q_osome (toV (q_op op_add4 rop_add (toV (q_var (pv 2))) (toV q_int))))))))) (q_cons (q_ret hm (q_op op_add4 rop_add (toV (q_op op_add4 rop_add (toV (q_slice (toV (q_var (pv 1))) q_onone (q_osome (toV (q_var (pv 2)))))) (toV (q_var (pv 4))))) (toV (q_slice (toV (q_var (pv 1))) (q_osome (toV (q_op op_add4 rop_add (toV (q_var (pv 2))) (toV q_int)))) q_onone)))) q_nil)) q_nil) (q_cons (q_ret hm (q_op op_add4 rop_add (toV (q_op op_add4 rop_add (toV (q_slice (toV (q_var (pv 1))) q_onone (q_osome (toV (q_var (pv 2)))))) (toV (toE (q_lst (q_acons (q_call G__law_bent_row (hr.mono (by decide)) rfl T.g__law_bent_row T.k__law_bent_row b__law_bent_row .nil (fun _ _ => RelL.nil) pass0 (q_acons (q_var (pv 0)) (q_acons (q_ix (toV (q_var (pv 1))) (toV (q_var (pv 2))) (fun _ _ => rfl)) q_anil))) q_anil)))))) (toV (q_slice (toV (q_var (pv 1))) (q_osome (toV (q_op op_add4 rop_add (toV (q_var (pv 2))) (toV q_int)))) q_onone)))) q_nil)))))
theorem sc__law_many_2 : FnScope N__law_many_2 ["_law_tape_here", "_law_figures"] (defScope s__law_many_2) := ⟨rfl, rfl, rfl, by decide +kernel, rfl, by decide +kernel, by decide +kernel⟩
theorem ok__law_many_2 {fd fd__law_draw_2 : FuncData} (F : Fun K "_law_many" "_law_many" s__law_many_2 a__law_many_2 fd) (T : Tx K mg a__law_last_3 a__law_at_2 a__law_draw_2 a__law_pick_2 a__law_begun_3 a__law_whole a__law_bent_row a__law_bent a__law_many_2 a__law_dot a__law_shares a__law_mark a__law_paper_2 a__law_signed a__law_tape a_parted a_mark_by a_House_base a_heap_of a_House_ahead_of a_House_said a_mark_paper_2 a_is_listing a_is_whole a_are_rows a_follows_row a_shows_mark a_is_base a_is_count a_is_beginning a_House___init__ a_law a_House tk_LEAST_BASE tk_MOST_BASE) (G__law_draw_2 : FnOk P w K mg base CX0 1 a__law_draw_2 fd__law_draw_2 ["_law_tape_here", "_law_many_here"] (lift K (sp__law_draw_2))) (b__law_draw_2 : Binds K fd__law_draw_2 ["_law_tape_here", "_law_many_here"] []) : FnOk P w K mg base CX0 2 a__law_many_2 fd ["_law_tape_here", "_law_figures"] (lift K (sp__law_many_2)) := by
  refine fn_ok (ds := d__law_many_2) F sc__law_many_2 (len__law_many_2) (fun cdv A outer s H E B hr hB hm => ?_) (d__law_many_2_ok)
  exact (q_cons (q_set (i := 2) sc__law_many_2.nd rfl (Or.inl rfl) q_int) (q_cons (q_for PassesOwn.never rfl (q_irng1 (by rfl) T.b_range (toV (q_op op_add4 rop_add (toV (q_call G__law_draw_2 (hr.mono (by decide)) rfl T.g__law_draw_2 T.k__law_draw_2 b__law_draw_2 .nil (fun _ _ => RelL.nil) pass0 (q_acons (q_var (pv 0)) (q_acons (q_op op_add4 rop_add (toV q_int) (toV (q_op op_fdivW rop_div (toV (q_var (pv 1))) (toV q_int)))) q_anil)))) (toV q_int)))) (q_gname (vs := [3]) (pg_name (i := 3) sc__law_many_2.nd rfl (Or.inl rfl)) (by decide)) (q_cons (q_set (i := 2) sc__law_many_2.nd rfl (Or.inl rfl) (q_op op_add4 rop_add (toV (q_op op_mul3 rop_mul (toV (q_var (pv 2))) (toV (q_op op_powW rop_pow (toV q_int) (toV q_int))))) (toV (q_call G__law_draw_2 (hr.mono (by decide)) rfl T.g__law_draw_2 T.k__law_draw_2 b__law_draw_2 .nil (fun _ _ => RelL.nil) pass0 (q_acons (q_var (pv 0)) (q_acons (q_op op_powW rop_pow (toV q_int) (toV q_int)) q_anil)))))) q_nil)) (q_cons (q_ret hm (q_var (pv 2))) q_nil)))
theorem sc__law_dot : FnScope N__law_dot ["_law_one", "_law_other"] (defScope s__law_dot) := ⟨rfl, rfl, rfl, by decide +kernel, rfl, by decide +kernel, by decide +kernel⟩
theorem ok__law_dot {fd : FuncData} (F : Fun K "_law_dot" "_law_dot" s__law_dot a__law_dot fd) (T : Tx K mg a__law_last_3 a__law_at_2 a__law_draw_2 a__law_pick_2 a__law_begun_3 a__law_whole a__law_bent_row a__law_bent a__law_many_2 a__law_dot a__law_shares a__law_mark a__law_paper_2 a__law_signed a__law_tape a_parted a_mark_by a_House_base a_heap_of a_House_ahead_of a_House_said a_mark_paper_2 a_is_listing a_is_whole a_are_rows a_follows_row a_shows_mark a_is_base a_is_count a_is_beginning a_House___init__ a_law a_House tk_LEAST_BASE tk_MOST_BASE) : FnOk P w K mg base CX0 1 a__law_dot fd ["_law_one", "_law_other"] (lift K (sp__law_dot)) := by
  refine fn_ok (ds := d__law_dot) F sc__law_dot (len__law_dot) (fun cdv A outer s H E B hr hB hm => ?_) (d__law_dot_ok)
  exact (q_cons (q_ret hm (q_callB (cr_sum rfl) rc_sum (by rfl) T.b_sum (by decide +kernel) (q_xcons (toV (toE (q_lc (own := [("_law_left", 2), ("_law_right", 3)]) rfl sc__law_dot.nd (q_izip (by rfl) T.b_zip (q_var (pv 0)) (q_var (pv 1))) (blkOk_by (N := N__law_dot) (sc := defScope s__law_dot) (own := [("_law_left", 2), ("_law_right", 3)]) (by decide +kernel)) (fun _ _ _ _ _ B => (q_gtup (n := 2) rfl (q_gcons (q_gname (vs := [2, 3]) (pg_name (i := 2) sc__law_dot.nd rfl (Or.inl rfl)) (by decide)) (q_gcons (q_gname (vs := [2, 3]) (pg_name (i := 3) sc__law_dot.nd rfl (Or.inl rfl)) (by decide)) q_gnil)))) (fun _ _ _ _ _ => pts_U0) (fun _ _ _ _ _ B => (q_op op_mul3 rop_mul (toV (q_var (pv 2))) (toV (q_var (pv 3)))))))) q_xnil))) q_nil)
theorem sc__law_shares : FnScope N__law_shares ["_law_base", "_law_number"] (defScope s__law_shares) := ⟨rfl, rfl, rfl, by decide +kernel, rfl, by decide +kernel, by decide +kernel⟩
theorem ok__law_shares {fd : FuncData} (F : Fun K "_law_shares" "_law_shares" s__law_shares a__law_shares fd) (T : Tx K mg a__law_last_3 a__law_at_2 a__law_draw_2 a__law_pick_2 a__law_begun_3 a__law_whole a__law_bent_row a__law_bent a__law_many_2 a__law_dot a__law_shares a__law_mark a__law_paper_2 a__law_signed a__law_tape a_parted a_mark_by a_House_base a_heap_of a_House_ahead_of a_House_said a_mark_paper_2 a_is_listing a_is_whole a_are_rows a_follows_row a_shows_mark a_is_base a_is_count a_is_beginning a_House___init__ a_law a_House tk_LEAST_BASE tk_MOST_BASE) : FnOk P w K mg base CX0 1 a__law_shares fd ["_law_base", "_law_number"] (lift K (sp__law_shares)) := by
  refine fn_ok (ds := d__law_shares) F sc__law_shares (len__law_shares) (fun cdv A outer s H E B hr hB hm => ?_) (d__law_shares_ok)
  exact (q_cons (q_set (i := 2) sc__law_shares.nd rfl (Or.inl rfl) q_int) (q_cons (q_while PassesOwn.never (q_tcmp op_le rop_le (toV (q_op op_mul3 rop_mul (toV (q_var (pv 2))) (toV (q_var (pv 0))))) (toV (q_var (pv 1))) (nomark _)) (q_cons (q_set (i := 2) sc__law_shares.nd rfl (Or.inl rfl) (q_op op_mul3 rop_mul (toV (q_var (pv 2))) (toV (q_var (pv 0))))) q_nil)) (q_cons (q_par3M (i := 3) (j := 4) (l := 5) rfl sc__law_shares.nd rfl rfl rfl (by decide) (by decide) (by decide) rfl rfl rfl (q_mconsV (q_op op_fdivW rop_div (toV (q_var (pv 1))) (toV (q_var (pv 2)))) (q_mconsV (q_op op_mod rop_mod (toV (q_var (pv 1))) (toV (q_var (pv 2)))) (q_mconsN (q_opN op_rep ropn_rep (toV (toE (q_lst (q_acons q_int q_anil)))) (toV (q_op op_sub rop_sub (toV (q_var (pv 0))) (toV q_int)))) fun B => q_mnil))) (by rfl)) (q_cons (q_seti (i := 5) (ps_asg (q_op op_sub rop_sub (toV (q_var (pv 2))) (toV (q_var (pv 4)))) (pg_sub (pv 5) (toV (q_op op_sub rop_sub (toV (q_var (pv 3))) (toV q_int))) set_list))) (q_cons (q_if (q_tcmp op_lt rop_lt (toV (q_var (pv 3))) (toV (q_op op_sub rop_sub (toV (q_var (pv 0))) (toV q_int))) (nomark _)) (q_cons (q_seti (i := 5) (ps_asg (q_var (pv 4)) (pg_sub (pv 5) (toV (q_var (pv 3))) set_list))) q_nil) (q_cons (q_seti (i := 5) (ps_asg (q_op op_add4 rop_add (toV (q_ix (q_view (pv 5)) (toV q_int) (fun _ _ => rfl))) (toV (q_op op_mul3 rop_mul (toV (q_var (pv 0))) (toV (q_var (pv 4)))))) (pg_sub (pv 5) (toV q_int) set_list))) q_nil)) (q_frz (i := 5) hB (q_cons (q_ret hm (q_var (pv 5))) q_nil)))))))
theorem sc__law_mark : FnScope N__law_mark ["_law_base", "_law_marks", "_law_number"] (defScope s__law_mark) := ⟨rfl, rfl, rfl, by decide +kernel, rfl, by decide +kernel, by decide +kernel⟩
theorem ok__law_mark {fd fd__law_dot fd__law_shares : FuncData} (F : Fun K "_law_mark" "_law_mark" s__law_mark a__law_mark fd) (T : Tx K mg a__law_last_3 a__law_at_2 a__law_draw_2 a__law_pick_2 a__law_begun_3 a__law_whole a__law_bent_row a__law_bent a__law_many_2 a__law_dot a__law_shares a__law_mark a__law_paper_2 a__law_signed a__law_tape a_parted a_mark_by a_House_base a_heap_of a_House_ahead_of a_House_said a_mark_paper_2 a_is_listing a_is_whole a_are_rows a_follows_row a_shows_mark a_is_base a_is_count a_is_beginning a_House___init__ a_law a_House tk_LEAST_BASE tk_MOST_BASE) (G__law_dot : FnOk P w K mg base CX0 1 a__law_dot fd__law_dot ["_law_one", "_law_other"] (lift K (sp__law_dot))) (b__law_dot : Binds K fd__law_dot ["_law_one", "_law_other"] []) (G__law_shares : FnOk P w K mg base CX0 1 a__law_shares fd__law_shares ["_law_base", "_law_number"] (lift K (sp__law_shares))) (b__law_shares : Binds K fd__law_shares ["_law_base", "_law_number"] []) : FnOk P w K mg base CX0 2 a__law_mark fd ["_law_base", "_law_marks", "_law_number"] (lift K (sp__law_mark)) := by
  refine fn_ok (ds := d__law_mark) F sc__law_mark (len__law_mark) (fun cdv A outer s H E B hr hB hm => ?_) (d__law_mark_ok)
  exact (q_cons (q_ret hm (q_call G__law_dot (hr.mono (by decide)) rfl T.g__law_dot T.k__law_dot b__law_dot .nil (fun _ _ => RelL.nil) pass0 (q_acons (q_var (pv 1)) (q_acons (q_call G__law_shares (hr.mono (by decide)) rfl T.g__law_shares T.k__law_shares b__law_shares .nil (fun _ _ => RelL.nil) pass0 (q_acons (q_var (pv 0)) (q_acons (q_var (pv 2)) q_anil))) q_anil)))) q_nil)
theorem sc__law_paper_2 : FnScope N__law_paper_2 ["_law_base", "_law_marks", "_law_number"] (defScope s__law_paper_2) := ⟨rfl, rfl, rfl, by decide +kernel, rfl, by decide +kernel, by decide +kernel⟩
theorem ok__law_paper_2 {fd fd__law_mark : FuncData} (F : Fun K "_law_paper" "_law_paper" s__law_paper_2 a__law_paper_2 fd) (T : Tx K mg a__law_last_3 a__law_at_2 a__law_draw_2 a__law_pick_2 a__law_begun_3 a__law_whole a__law_bent_row a__law_bent a__law_many_2 a__law_dot a__law_shares a__law_mark a__law_paper_2 a__law_signed a__law_tape a_parted a_mark_by a_House_base a_heap_of a_House_ahead_of a_House_said a_mark_paper_2 a_is_listing a_is_whole a_are_rows a_follows_row a_shows_mark a_is_base a_is_count a_is_beginning a_House___init__ a_law a_House tk_LEAST_BASE tk_MOST_BASE) (G__law_mark : FnOk P w K mg base CX0 2 a__law_mark fd__law_mark ["_law_base", "_law_marks", "_law_number"] (lift K (sp__law_mark))) (b__law_mark : Binds K fd__law_mark ["_law_base", "_law_marks", "_law_number"] []) : FnOk P w K mg base CX0 3 a__law_paper_2 fd ["_law_base", "_law_marks", "_law_number"] (lift K (sp__law_paper_2)) := by
  refine fn_ok (ds := d__law_paper_2) F sc__law_paper_2 (len__law_paper_2) (fun cdv A outer s H E B hr hB hm => ?_) (d__law_paper_2_ok)
  exact (q_cons (q_setN (i := 3) sc__law_paper_2.nd rfl (Or.inl rfl) (q_lst (q_acons (q_tup (q_acons (q_var (pv 2)) (q_acons (q_call G__law_mark (hr.mono (by decide)) rfl T.g__law_mark T.k__law_mark b__law_mark .nil (fun _ _ => RelL.nil) pass0 (q_acons (q_var (pv 0)) (q_acons (q_var (pv 1)) (q_acons (q_var (pv 2)) q_anil)))) (q_acons (q_call G__law_mark (hr.mono (by decide)) rfl T.g__law_mark T.k__law_mark b__law_mark .nil (fun _ _ => RelL.nil) pass0 (q_acons (q_var (pv 0)) (q_acons (q_var (pv 1)) (q_acons (q_op op_add4 rop_add (toV (q_var (pv 2))) (toV q_int)) q_anil)))) q_anil)))) q_anil))) (q_cons (q_while PassesOwn.never (q_tcmp op_ge rop_ge (toV (q_var (pv 2))) (toV (q_var (pv 0))) (nomark _)) (q_cons (q_set (i := 2) sc__law_paper_2.nd rfl (Or.inl rfl) (q_op op_fdivW rop_div (toV (q_var (pv 2))) (toV (q_var (pv 0))))) (q_cons (q_app (i := 3) (pe_bm PySem.F.plainAttrs_list PySem.F.slot_list_append PySem.F.type_list_append mt_append (pv 3) (pa_cons (q_tup (q_acons (q_var (pv 2)) (q_acons (q_call G__law_mark (hr.mono (by decide)) rfl T.g__law_mark T.k__law_mark b__law_mark .nil (fun _ _ => RelL.nil) pass0 (q_acons (q_var (pv 0)) (q_acons (q_var (pv 1)) (q_acons (q_var (pv 2)) q_anil)))) (q_acons (q_call G__law_mark (hr.mono (by decide)) rfl T.g__law_mark T.k__law_mark b__law_mark .nil (fun _ _ => RelL.nil) pass0 (q_acons (q_var (pv 0)) (q_acons (q_var (pv 1)) (q_acons (q_op op_add4 rop_add (toV (q_var (pv 2))) (toV q_int)) q_anil)))) q_anil)))) pa_nil))) q_nil))) (q_frz (i := 3) hB (q_cons (q_ret hm (q_var (pv 3))) q_nil))))
theorem sc__law_signed : FnScope N__law_signed ["_law_tape_here", "_law_figures"] (defScope s__law_signed) := ⟨rfl, rfl, rfl, by decide +kernel, rfl, by decide +kernel, by decide +kernel⟩
theorem ok__law_signed {fd fd__law_draw_2 fd__law_many_2 fd__law_pick_2 : FuncData} (F : Fun K "_law_signed" "_law_signed" s__law_signed a__law_signed fd) (T : Tx K mg a__law_last_3 a__law_at_2 a__law_draw_2 a__law_pick_2 a__law_begun_3 a__law_whole a__law_bent_row a__law_bent a__law_many_2 a__law_dot a__law_shares a__law_mark a__law_paper_2 a__law_signed a__law_tape a_parted a_mark_by a_House_base a_heap_of a_House_ahead_of a_House_said a_mark_paper_2 a_is_listing a_is_whole a_are_rows a_follows_row a_shows_mark a_is_base a_is_count a_is_beginning a_House___init__ a_law a_House tk_LEAST_BASE tk_MOST_BASE) (G__law_draw_2 : FnOk P w K mg base CX0 1 a__law_draw_2 fd__law_draw_2 ["_law_tape_here", "_law_many_here"] (lift K (sp__law_draw_2))) (b__law_draw_2 : Binds K fd__law_draw_2 ["_law_tape_here", "_law_many_here"] []) (G__law_many_2 : FnOk P w K mg base CX0 2 a__law_many_2 fd__law_many_2 ["_law_tape_here", "_law_figures"] (lift K (sp__law_many_2))) (b__law_many_2 : Binds K fd__law_many_2 ["_law_tape_here", "_law_figures"] []) (G__law_pick_2 : FnOk P w K mg base CX0 2 a__law_pick_2 fd__law_pick_2 ["_law_tape_here", "_law_some"] (lift K (sp__law_pick_2))) (b__law_pick_2 : Binds K fd__law_pick_2 ["_law_tape_here", "_law_some"] []) : FnOk P w K mg base CX0 3 a__law_signed fd ["_law_tape_here", "_law_figures"] (lift K (sp__law_signed)) := by
  refine fn_ok (ds := d__law_signed) F sc__law_signed (len__law_signed) (fun cdv A outer s H E B hr hB hm => ?_) (d__law_signed_ok)
  exact (q_cons (q_ret hm (q_op op_mul3 rop_mul (toV (q_call G__law_pick_2 (hr.mono (by decide)) rfl T.g__law_pick_2 T.k__law_pick_2 b__law_pick_2 .nil (fun _ _ => RelL.nil) pass0 (q_acons (q_var (pv 0)) (q_acons (toE (q_lst (q_acons q_int (q_acons (q_un un_neg run_neg (toV q_int)) (q_acons q_int (q_acons q_int (q_acons (q_un un_neg run_neg (toV q_int)) q_anil))))))) q_anil)))) (toV (q_call G__law_pick_2 (hr.mono (by decide)) rfl T.g__law_pick_2 T.k__law_pick_2 b__law_pick_2 .nil (fun _ _ => RelL.nil) pass0 (q_acons (q_var (pv 0)) (q_acons (toE (q_lst (q_acons (q_call G__law_draw_2 (hr.mono (by decide)) rfl T.g__law_draw_2 T.k__law_draw_2 b__law_draw_2 .nil (fun _ _ => RelL.nil) pass0 (q_acons (q_var (pv 0)) (q_acons q_int q_anil))) (q_acons (q_call G__law_many_2 (hr.mono (by decide)) rfl T.g__law_many_2 T.k__law_many_2 b__law_many_2 .nil (fun _ _ => RelL.nil) pass0 (q_acons (q_var (pv 0)) (q_acons (q_var (pv 1)) q_anil))) q_anil)))) q_anil)))))) q_nil)
theorem sc__law_tape : FnScope N__law_tape ["_law_script"] (defScope s__law_tape) := ⟨rfl, rfl, rfl, by decide +kernel, rfl, by decide +kernel, by decide +kernel⟩
theorem ok__law_tape {fd : FuncData} (F : Fun K "_law_tape" "_law_tape" s__law_tape a__law_tape fd) (T : Tx K mg a__law_last_3 a__law_at_2 a__law_draw_2 a__law_pick_2 a__law_begun_3 a__law_whole a__law_bent_row a__law_bent a__law_many_2 a__law_dot a__law_shares a__law_mark a__law_paper_2 a__law_signed a__law_tape a_parted a_mark_by a_House_base a_heap_of a_House_ahead_of a_House_said a_mark_paper_2 a_is_listing a_is_whole a_are_rows a_follows_row a_shows_mark a_is_base a_is_count a_is_beginning a_House___init__ a_law a_House tk_LEAST_BASE tk_MOST_BASE) : FnOk P w K mg base CX0 1 a__law_tape fd ["_law_script"] (liftN K (sp__law_tape)) := by
  refine fn_okN (ds := d__law_tape) F sc__law_tape (len__law_tape) (fun cdv A outer s H E B hr hB hm => ?_) (d__law_tape_ok)
  exact (q_cons (q_retNew hm (q_disp (q_pcons (fun B => (toE (q_callTyN call_list_of rc_list (by rfl) T.b_list (by decide +kernel) (q_xcons (toV (q_slice (toV (q_var (pv 0))) q_onone (q_osome (toV q_int)))) q_xnil)))) (q_pcons (fun B => q_int) (q_pcons (fun B => q_int) q_pnil))) (by decide +kernel) (by decide))) q_nil)
theorem sc_parted : FnScope N_parted ["number", "base"] (defScope s_parted) := ⟨rfl, rfl, rfl, by decide +kernel, rfl, by decide +kernel, by decide +kernel⟩
theorem ok_parted {fd : FuncData} (F : Fun K "parted" "parted" s_parted a_parted fd) (T : Tx K mg a__law_last_3 a__law_at_2 a__law_draw_2 a__law_pick_2 a__law_begun_3 a__law_whole a__law_bent_row a__law_bent a__law_many_2 a__law_dot a__law_shares a__law_mark a__law_paper_2 a__law_signed a__law_tape a_parted a_mark_by a_House_base a_heap_of a_House_ahead_of a_House_said a_mark_paper_2 a_is_listing a_is_whole a_are_rows a_follows_row a_shows_mark a_is_base a_is_count a_is_beginning a_House___init__ a_law a_House tk_LEAST_BASE tk_MOST_BASE) : FnOk P w K mg base CX0 1 a_parted fd ["number", "base"] (lift K (sp_parted)) := by
  refine fn_ok (ds := d_parted) F sc_parted (len_parted) (fun cdv A outer s H E B hr hB hm => ?_) (d_parted_ok)
  exact (q_cons (q_set (i := 2) sc_parted.nd rfl (Or.inl rfl) q_int) (q_cons (q_while PassesOwn.never (q_tcmp op_le rop_le (toV (q_op op_mul3 rop_mul (toV (q_var (pv 2))) (toV (q_var (pv 1))))) (toV (q_var (pv 0))) (nomark _)) (q_cons (q_aug (i := 2) sc_parted.nd rfl (Or.inl rfl) (toV (q_var (pv 1))) iop_mul2 rop_mulI) q_nil)) (q_cons (q_ret hm (q_tup (q_acons (q_var (pv 2)) (q_acons (q_op op_fdivW rop_div (toV (q_var (pv 0))) (toV (q_var (pv 2)))) (q_acons (q_op op_mod rop_mod (toV (q_var (pv 0))) (toV (q_var (pv 2)))) q_anil))))) q_nil)))
theorem sc_mark_by : FnScope N_mark_by ["base", "marks", "number"] (defScope s_mark_by) := ⟨rfl, rfl, rfl, by decide +kernel, rfl, by decide +kernel, by decide +kernel⟩
theorem ok_mark_by {fd fd_parted : FuncData} (F : Fun K "mark_by" "mark_by" s_mark_by a_mark_by fd) (T : Tx K mg a__law_last_3 a__law_at_2 a__law_draw_2 a__law_pick_2 a__law_begun_3 a__law_whole a__law_bent_row a__law_bent a__law_many_2 a__law_dot a__law_shares a__law_mark a__law_paper_2 a__law_signed a__law_tape a_parted a_mark_by a_House_base a_heap_of a_House_ahead_of a_House_said a_mark_paper_2 a_is_listing a_is_whole a_are_rows a_follows_row a_shows_mark a_is_base a_is_count a_is_beginning a_House___init__ a_law a_House tk_LEAST_BASE tk_MOST_BASE) (G_parted : FnOk P w K mg base CX0 1 a_parted fd_parted ["number", "base"] (lift K (sp_parted))) (b_parted : Binds K fd_parted ["number", "base"] []) : FnOk P w K mg base CX0 2 a_mark_by fd ["base", "marks", "number"] (lift K (sp_mark_by)) := by
  refine fn_ok (ds := d_mark_by) F sc_mark_by (len_mark_by) (fun cdv A outer s H E B hr hB hm => ?_) (d_mark_by_ok)
  exact (q_cons (q_asg (q_call G_parted (hr.mono (by decide)) rfl T.g_parted T.k_parted b_parted .nil (fun _ _ => RelL.nil) pass0 (q_acons (q_var (pv 2)) (q_acons (q_var (pv 0)) q_anil))) (q_gtup (n := 3) rfl (q_gcons (q_gname (vs := [4, 5, 6]) (pg_name (i := 4) sc_mark_by.nd rfl (Or.inl rfl)) (by decide)) (q_gcons (q_gname (vs := [4, 5, 6]) (pg_name (i := 5) sc_mark_by.nd rfl (Or.inl rfl)) (by decide)) (q_gcons (q_gname (vs := [4, 5, 6]) (pg_name (i := 6) sc_mark_by.nd rfl (Or.inl rfl)) (by decide)) q_gnil))))) (q_cons (q_set (i := 3) sc_mark_by.nd rfl (Or.inl rfl) (q_ifE (q_tcmp op_lt rop_lt (toV (q_var (pv 5))) (toV (q_op op_sub rop_sub (toV (q_var (pv 0))) (toV q_int))) (nomark _)) (q_ix (toV (q_var (pv 1))) (toV (q_var (pv 5))) (fun _ _ => rfl)) (q_op op_mul3 rop_mul (toV (q_var (pv 0))) (toV (q_ix (toV (q_var (pv 1))) (toV q_int) (fun _ _ => rfl)))))) (q_cons (q_ret hm (q_op op_add4 rop_add (toV (q_op op_mul3 rop_mul (toV (q_op op_sub rop_sub (toV (q_var (pv 4))) (toV (q_var (pv 6))))) (toV (q_ix (toV (q_var (pv 1))) (toV (q_op op_sub rop_sub (toV (q_var (pv 5))) (toV q_int))) (fun _ _ => rfl))))) (toV (q_op op_mul3 rop_mul (toV (q_var (pv 6))) (toV (q_var (pv 3))))))) q_nil)))
theorem sc_House_base : FnScope N_House_base ["self"] (defScope s_House_base) := ⟨rfl, rfl, rfl, by decide +kernel, rfl, by decide +kernel, by decide +kernel⟩
theorem ok_House_base {fd : FuncData} (F : Fun K "base" "House.base" s_House_base a_House_base fd) (T : Tx K mg a__law_last_3 a__law_at_2 a__law_draw_2 a__law_pick_2 a__law_begun_3 a__law_whole a__law_bent_row a__law_bent a__law_many_2 a__law_dot a__law_shares a__law_mark a__law_paper_2 a__law_signed a__law_tape a_parted a_mark_by a_House_base a_heap_of a_House_ahead_of a_House_said a_mark_paper_2 a_is_listing a_is_whole a_are_rows a_follows_row a_shows_mark a_is_base a_is_count a_is_beginning a_House___init__ a_law a_House tk_LEAST_BASE tk_MOST_BASE) : FnOk P w K mg base CX0 1 a_House_base fd ["self"] (lift K (sp_House_base (Cl.mk a_House a_law a_law a_law a_law))) := by
  refine fn_ok (ds := d_House_base (Cl.mk a_House a_law a_law a_law a_law)) F sc_House_base (len_House_base (Cl.mk a_House a_law a_law a_law a_law)) (fun cdv A outer s H E B hr hB hm => ?_) (d_House_base_ok (Cl.mk a_House a_law a_law a_law a_law))
  exact (q_cons (q_ret hm (q_fld (toV (q_var (pv 0))) T.cl_House T.n_House_kept_base)) q_nil)
theorem sc_heap_of : FnScope N_heap_of ["number", "base"] (defScope s_heap_of) := ⟨rfl, rfl, rfl, by decide +kernel, rfl, by decide +kernel, by decide +kernel⟩
theorem ok_heap_of {fd : FuncData} (F : Fun K "heap_of" "heap_of" s_heap_of a_heap_of fd) (T : Tx K mg a__law_last_3 a__law_at_2 a__law_draw_2 a__law_pick_2 a__law_begun_3 a__law_whole a__law_bent_row a__law_bent a__law_many_2 a__law_dot a__law_shares a__law_mark a__law_paper_2 a__law_signed a__law_tape a_parted a_mark_by a_House_base a_heap_of a_House_ahead_of a_House_said a_mark_paper_2 a_is_listing a_is_whole a_are_rows a_follows_row a_shows_mark a_is_base a_is_count a_is_beginning a_House___init__ a_law a_House tk_LEAST_BASE tk_MOST_BASE) : FnOk P w K mg base CX0 1 a_heap_of fd ["number", "base"] (lift K (sp_heap_of)) := by
  refine fn_ok (ds := d_heap_of) F sc_heap_of (len_heap_of) (fun cdv A outer s H E B hr hB hm => ?_) (d_heap_of_ok)
  exact (q_cons (q_set (i := 2) sc_heap_of.nd rfl (Or.inl rfl) q_int) (q_cons (q_while PassesOwn.never (q_tcmp op_gt rop_gt (toV (q_var (pv 0))) (toV q_int) (nomark _)) (q_cons (q_aug (i := 0) sc_heap_of.nd rfl (Or.inl rfl) (toV (q_var (pv 1))) iop_fdivW rop_div) (q_cons (q_aug (i := 2) sc_heap_of.nd rfl (Or.inl rfl) (toV (q_var (pv 0))) iop_add rop_addI) q_nil))) (q_cons (q_ret hm (q_var (pv 2))) q_nil)))
theorem sc_House_ahead_of : FnScope N_House_ahead_of ["self", "power", "exponent", "sign"] (defScope s_House_ahead_of) := ⟨rfl, rfl, rfl, by decide +kernel, rfl, by decide +kernel, by decide +kernel⟩
theorem ok_House_ahead_of {fd : FuncData} (F : Fun K "ahead_of" "House.ahead_of" s_House_ahead_of a_House_ahead_of fd) (T : Tx K mg a__law_last_3 a__law_at_2 a__law_draw_2 a__law_pick_2 a__law_begun_3 a__law_whole a__law_bent_row a__law_bent a__law_many_2 a__law_dot a__law_shares a__law_mark a__law_paper_2 a__law_signed a__law_tape a_parted a_mark_by a_House_base a_heap_of a_House_ahead_of a_House_said a_mark_paper_2 a_is_listing a_is_whole a_are_rows a_follows_row a_shows_mark a_is_base a_is_count a_is_beginning a_House___init__ a_law a_House tk_LEAST_BASE tk_MOST_BASE) : FnOk P w K mg base CX0 1 a_House_ahead_of fd ["self", "power", "exponent", "sign"] (lift K (sp_House_ahead_of (Cl.mk a_House a_law a_law a_law a_law))) := by
  refine fn_ok (ds := d_House_ahead_of (Cl.mk a_House a_law a_law a_law a_law)) F sc_House_ahead_of (len_House_ahead_of (Cl.mk a_House a_law a_law a_law a_law)) (fun cdv A outer s H E B hr hB hm => ?_) (d_House_ahead_of_ok (Cl.mk a_House a_law a_law a_law a_law))
  exact (q_cons (q_set (i := 4) sc_House_ahead_of.nd rfl (Or.inl rfl) (q_fld (toV (q_var (pv 0))) T.cl_House T.n_House_kept_base)) (q_cons (q_set (i := 5) sc_House_ahead_of.nd rfl (Or.inl rfl) (q_op op_sub rop_sub (toV (q_op op_mul3 rop_mul (toV (q_var (pv 3))) (toV (q_var (pv 1))))) (toV q_int))) (q_cons (q_if (q_tcmp (op_eqD hr.units) rop_eq (toV (q_var (pv 5))) (toV q_int) (nomark _)) (q_cons (q_ret hm q_int) q_nil) q_nil) (q_cons (q_if (q_tcmp (op_eqD hr.units) rop_eq (toV (q_var (pv 3))) (toV q_int) (nomark _)) (q_cons (q_par (i := 7) (j := 8) rfl sc_House_ahead_of.nd rfl rfl (by decide) rfl rfl (q_acons (q_op op_sub rop_sub (toV (q_var (pv 2))) (toV q_int)) (q_acons (q_op op_sub rop_sub (toV (q_var (pv 4))) (toV q_int)) q_anil)) (by rfl)) q_nil) (q_cons (q_par (i := 7) (j := 8) rfl sc_House_ahead_of.nd rfl rfl (by decide) rfl rfl (q_acons (q_var (pv 2)) (q_acons (q_op op_sub rop_sub (toV (q_var (pv 3))) (toV q_int)) q_anil)) (by rfl)) q_nil)) (q_cons (q_set (i := 6) sc_House_ahead_of.nd rfl (Or.inl rfl) (q_op op_add4 rop_add (toV (q_var (pv 8))) (toV (q_op op_mul3 rop_mul (toV (q_op op_sub rop_sub (toV (q_var (pv 4))) (toV q_int))) (toV (q_var (pv 7))))))) (q_cons (q_ret hm (q_op op_add4 rop_add (toV (q_op op_add4 rop_add (toV (q_op op_add4 rop_add (toV (q_var (pv 5))) (toV (q_op op_fdivW rop_div (toV (q_op op_sub rop_sub (toV (q_var (pv 5))) (toV (q_var (pv 6))))) (toV (q_op op_sub rop_sub (toV (q_var (pv 4))) (toV q_int))))))) (toV (q_op op_mul3 rop_mul (toV (q_var (pv 7))) (toV (q_ix (toV (q_fld (toV (q_var (pv 0))) T.cl_House T.n_House_sums)) (toV (q_un un_neg run_neg (toV q_int))) (fun _ _ => rfl))))))) (toV (q_ix (toV (q_fld (toV (q_var (pv 0))) T.cl_House T.n_House_sums)) (toV (q_op op_sub rop_sub (toV (q_var (pv 8))) (toV q_int))) (fun _ _ => rfl))))) q_nil))))))
theorem sc_House_said : FnScope N_House_said ["self", "place"] (defScope s_House_said) := ⟨rfl, rfl, rfl, by decide +kernel, rfl, by decide +kernel, by decide +kernel⟩
theorem ok_House_said {fd fd_heap_of fd_House_ahead_of : FuncData} (F : Fun K "said" "House.said" s_House_said a_House_said fd) (T : Tx K mg a__law_last_3 a__law_at_2 a__law_draw_2 a__law_pick_2 a__law_begun_3 a__law_whole a__law_bent_row a__law_bent a__law_many_2 a__law_dot a__law_shares a__law_mark a__law_paper_2 a__law_signed a__law_tape a_parted a_mark_by a_House_base a_heap_of a_House_ahead_of a_House_said a_mark_paper_2 a_is_listing a_is_whole a_are_rows a_follows_row a_shows_mark a_is_base a_is_count a_is_beginning a_House___init__ a_law a_House tk_LEAST_BASE tk_MOST_BASE) (G_heap_of : FnOk P w K mg base CX0 1 a_heap_of fd_heap_of ["number", "base"] (lift K (sp_heap_of))) (b_heap_of : Binds K fd_heap_of ["number", "base"] []) (G_House_ahead_of : FnOk P w K mg base CX0 1 a_House_ahead_of fd_House_ahead_of ["self", "power", "exponent", "sign"] (lift K (sp_House_ahead_of (Cl.mk a_House a_law a_law a_law a_law)))) (b_House_ahead_of : Binds K fd_House_ahead_of ["self", "power", "exponent", "sign"] []) : FnOk P w K mg base CX0 2 a_House_said fd ["self", "place"] (lift K (sp_House_said (Cl.mk a_House a_law a_law a_law a_law))) := by
  refine fn_ok (ds := d_House_said (Cl.mk a_House a_law a_law a_law a_law)) F sc_House_said (len_House_said (Cl.mk a_House a_law a_law a_law a_law)) (fun cdv A outer s H E B hr hB hm => ?_) (d_House_said_ok (Cl.mk a_House a_law a_law a_law a_law))
  exact (q_cons (q_asg (q_tup (q_acons (q_fld (toV (q_var (pv 0))) T.cl_House T.n_House_kept_base) (q_acons q_int (q_acons q_int (q_acons q_int q_anil))))) (q_gtup (n := 4) rfl (q_gcons (q_gname (vs := [5, 6, 7, 8]) (pg_name (i := 5) sc_House_said.nd rfl (Or.inl rfl)) (by decide)) (q_gcons (q_gname (vs := [5, 6, 7, 8]) (pg_name (i := 6) sc_House_said.nd rfl (Or.inl rfl)) (by decide)) (q_gcons (q_gname (vs := [5, 6, 7, 8]) (pg_name (i := 7) sc_House_said.nd rfl (Or.inl rfl)) (by decide)) (q_gcons (q_gname (vs := [5, 6, 7, 8]) (pg_name (i := 8) sc_House_said.nd rfl (Or.inl rfl)) (by decide)) q_gnil)))))) (q_cons (q_while PassesOwn.never (q_tcmp op_lt rop_lt (toV (q_meth (q_var (pv 0)) T.cl_House T.m_House_ahead_of G_House_ahead_of (hr.mono (by decide)) b_House_ahead_of .nil (fun _ _ => RelL.nil) pass0 (q_acons (q_op op_mul3 rop_mul (toV (q_var (pv 7))) (toV (q_var (pv 5)))) (q_acons (q_op op_add4 rop_add (toV (q_var (pv 6))) (toV q_int)) (q_acons q_int q_anil))))) (toV (q_var (pv 1))) (nomark _)) (q_cons (q_aug (i := 6) sc_House_said.nd rfl (Or.inl rfl) (toV q_int) iop_add rop_addI) (q_cons (q_aug (i := 7) sc_House_said.nd rfl (Or.inl rfl) (toV (q_var (pv 5))) iop_mul2 rop_mulI) q_nil))) (q_cons (q_while PassesOwn.never (L2.PW.pt (q_and (q_tcmp op_lt rop_lt (toV (q_var (pv 8))) (toV (q_op op_sub rop_sub (toV (q_var (pv 5))) (toV q_int))) (nomark _)) (q_and1 (q_tcmp op_lt rop_lt (toV (q_meth (q_var (pv 0)) T.cl_House T.m_House_ahead_of G_House_ahead_of (hr.mono (by decide)) b_House_ahead_of .nil (fun _ _ => RelL.nil) pass0 (q_acons (q_var (pv 7)) (q_acons (q_var (pv 6)) (q_acons (q_op op_add4 rop_add (toV (q_var (pv 8))) (toV q_int)) q_anil))))) (toV (q_var (pv 1))) (nomark _))))) (q_cons (q_aug (i := 8) sc_House_said.nd rfl (Or.inl rfl) (toV q_int) iop_add rop_addI) q_nil)) (q_cons (q_set (i := 2) sc_House_said.nd rfl (Or.inl rfl) (q_op op_sub rop_sub (toV (q_op op_sub rop_sub (toV (q_var (pv 1))) (toV (q_op op_mul3 rop_mul (toV (q_var (pv 6))) (toV (q_ix (toV (q_fld (toV (q_var (pv 0))) T.cl_House T.n_House_sums)) (toV (q_un un_neg run_neg (toV q_int))) (fun _ _ => rfl))))))) (toV (q_ix (toV (q_fld (toV (q_var (pv 0))) T.cl_House T.n_House_sums)) (toV (q_op op_sub rop_sub (toV (q_var (pv 8))) (toV q_int))) (fun _ _ => rfl))))) (q_cons (q_set (i := 3) sc_House_said.nd rfl (Or.inl rfl) (q_op op_sub rop_sub (toV (q_callB (call_max3 rfl) rc_max (by rfl) T.b_max (by decide +kernel) (q_xcons (toV (q_op op_mul3 rop_mul (toV (q_var (pv 8))) (toV (q_var (pv 7))))) (q_xcons (toV (q_op op_fdivW rop_div (toV (q_op op_mul3 rop_mul (toV (q_var (pv 2))) (toV (q_op op_sub rop_sub (toV (q_var (pv 5))) (toV q_int))))) (toV (q_var (pv 5))))) q_xnil)))) (toV q_int))) (q_cons (q_set (i := 4) sc_House_said.nd rfl (Or.inl rfl) (q_callB (call_min3 rfl) rc_min (by rfl) T.b_min (by decide +kernel) (q_xcons (toV (q_op op_sub rop_sub (toV (q_op op_mul3 rop_mul (toV (q_op op_add4 rop_add (toV (q_var (pv 8))) (toV q_int))) (toV (q_var (pv 7))))) (toV q_int))) (q_xcons (toV (q_op op_add4 rop_add (toV (q_op op_add4 rop_add (toV (q_var (pv 3))) (toV (q_var (pv 6))))) (toV q_int))) q_xnil)))) (q_cons (q_while PassesOwn.never (q_tcmp op_gt rop_gt (toV (q_op op_sub rop_sub (toV (q_var (pv 4))) (toV (q_var (pv 3))))) (toV q_int) (nomark _)) (q_cons (q_set (i := 9) sc_House_said.nd rfl (Or.inl rfl) (q_op op_fdivW rop_div (toV (q_op op_add4 rop_add (toV (q_var (pv 3))) (toV (q_var (pv 4))))) (toV q_int))) (q_cons (q_if (q_tcmp op_lt rop_lt (toV (q_op op_add4 rop_add (toV (q_var (pv 9))) (toV (q_call G_heap_of (hr.mono (by decide)) rfl T.g_heap_of T.k_heap_of b_heap_of .nil (fun _ _ => RelL.nil) pass0 (q_acons (q_var (pv 9)) (q_acons (q_var (pv 5)) q_anil)))))) (toV (q_var (pv 2))) (nomark _)) (q_cons (q_set (i := 3) sc_House_said.nd rfl (Or.inl rfl) (q_var (pv 9))) q_nil) (q_cons (q_set (i := 4) sc_House_said.nd rfl (Or.inl rfl) (q_var (pv 9))) q_nil)) q_nil))) (q_cons (q_ret hm (q_var (pv 4))) q_nil))))))))
theorem sc_mark_paper_2 : FnScope N_mark_paper_2 ["house", "marks", "place"] (defScope s_mark_paper_2) := ⟨rfl, rfl, rfl, by decide +kernel, rfl, by decide +kernel, by decide +kernel⟩
theorem ok_mark_paper_2 {fd fd_mark_by fd_House_base fd_House_said : FuncData} (F : Fun K "mark_paper" "mark_paper" s_mark_paper_2 a_mark_paper_2 fd) (T : Tx K mg a__law_last_3 a__law_at_2 a__law_draw_2 a__law_pick_2 a__law_begun_3 a__law_whole a__law_bent_row a__law_bent a__law_many_2 a__law_dot a__law_shares a__law_mark a__law_paper_2 a__law_signed a__law_tape a_parted a_mark_by a_House_base a_heap_of a_House_ahead_of a_House_said a_mark_paper_2 a_is_listing a_is_whole a_are_rows a_follows_row a_shows_mark a_is_base a_is_count a_is_beginning a_House___init__ a_law a_House tk_LEAST_BASE tk_MOST_BASE) (G_mark_by : FnOk P w K mg base CX0 2 a_mark_by fd_mark_by ["base", "marks", "number"] (lift K (sp_mark_by))) (b_mark_by : Binds K fd_mark_by ["base", "marks", "number"] []) (G_House_base : FnOk P w K mg base CX0 1 a_House_base fd_House_base ["self"] (lift K (sp_House_base (Cl.mk a_House a_law a_law a_law a_law)))) (b_House_base : Binds K fd_House_base ["self"] []) (G_House_said : FnOk P w K mg base CX0 2 a_House_said fd_House_said ["self", "place"] (lift K (sp_House_said (Cl.mk a_House a_law a_law a_law a_law)))) (b_House_said : Binds K fd_House_said ["self", "place"] []) : FnOk P w K mg base CX0 3 a_mark_paper_2 fd ["house", "marks", "place"] (liftN K (sp_mark_paper_2 (Cl.mk a_House a_law a_law a_law a_law))) := by
  refine fn_okN (ds := d_mark_paper_2 (Cl.mk a_House a_law a_law a_law a_law)) F sc_mark_paper_2 (len_mark_paper_2 (Cl.mk a_House a_law a_law a_law a_law)) (fun cdv A outer s H E B hr hB hm => ?_) (d_mark_paper_2_ok (Cl.mk a_House a_law a_law a_law a_law))
  exact (q_cons (q_par3M (i := 3) (j := 4) (l := 5) rfl sc_mark_paper_2.nd rfl rfl rfl (by decide) (by decide) (by decide) rfl rfl rfl (q_mconsV (q_meth0 (q_var (pv 0)) T.cl_House T.m_House_base G_House_base (hr.mono (by decide)) b_House_base .nil (fun _ _ => RelL.nil) pass0) (q_mconsV (q_meth (q_var (pv 0)) T.cl_House T.m_House_said G_House_said (hr.mono (by decide)) b_House_said .nil (fun _ _ => RelL.nil) pass0 (q_acons (q_var (pv 2)) q_anil)) (q_mconsN (q_lst q_anil) fun B => q_mnil))) (by rfl)) (q_cons (q_while PassesOwn.never (q_tcmp op_ge rop_ge (toV (q_var (pv 4))) (toV (q_var (pv 3))) (nomark _)) (q_cons (q_app (i := 5) (pe_bm PySem.F.plainAttrs_list PySem.F.slot_list_append PySem.F.type_list_append mt_append (pv 5) (pa_cons (q_tup (q_acons (q_var (pv 4)) (q_acons (q_call G_mark_by (hr.mono (by decide)) rfl T.g_mark_by T.k_mark_by b_mark_by .nil (fun _ _ => RelL.nil) pass0 (q_acons (q_var (pv 3)) (q_acons (q_var (pv 1)) (q_acons (q_var (pv 4)) q_anil)))) (q_acons (q_call G_mark_by (hr.mono (by decide)) rfl T.g_mark_by T.k_mark_by b_mark_by .nil (fun _ _ => RelL.nil) pass0 (q_acons (q_var (pv 3)) (q_acons (q_var (pv 1)) (q_acons (q_op op_add4 rop_add (toV (q_var (pv 4))) (toV q_int)) q_anil)))) q_anil)))) pa_nil))) (q_cons (q_aug (i := 4) sc_mark_paper_2.nd rfl (Or.inl rfl) (toV (q_var (pv 3))) iop_fdivW rop_div) q_nil))) (q_frz (i := 5) hB (q_cons (q_retNew hm (q_opN op_cat ropn_cat (q_view (pv 5)) (toV (toE (q_lst (q_acons (q_tup (q_acons (q_var (pv 4)) (q_acons (q_call G_mark_by (hr.mono (by decide)) rfl T.g_mark_by T.k_mark_by b_mark_by .nil (fun _ _ => RelL.nil) pass0 (q_acons (q_var (pv 3)) (q_acons (q_var (pv 1)) (q_acons (q_var (pv 4)) q_anil)))) (q_acons (q_call G_mark_by (hr.mono (by decide)) rfl T.g_mark_by T.k_mark_by b_mark_by .nil (fun _ _ => RelL.nil) pass0 (q_acons (q_var (pv 3)) (q_acons (q_var (pv 1)) (q_acons (q_op op_add4 rop_add (toV (q_var (pv 4))) (toV q_int)) q_anil)))) q_anil)))) q_anil)))))) q_nil))))
theorem sc_is_listing : FnScope N_is_listing ["thing"] (defScope s_is_listing) := ⟨rfl, rfl, rfl, by decide +kernel, rfl, by decide +kernel, by decide +kernel⟩
theorem ok_is_listing {fd : FuncData} (F : Fun K "is_listing" "is_listing" s_is_listing a_is_listing fd) (T : Tx K mg a__law_last_3 a__law_at_2 a__law_draw_2 a__law_pick_2 a__law_begun_3 a__law_whole a__law_bent_row a__law_bent a__law_many_2 a__law_dot a__law_shares a__law_mark a__law_paper_2 a__law_signed a__law_tape a_parted a_mark_by a_House_base a_heap_of a_House_ahead_of a_House_said a_mark_paper_2 a_is_listing a_is_whole a_are_rows a_follows_row a_shows_mark a_is_base a_is_count a_is_beginning a_House___init__ a_law a_House tk_LEAST_BASE tk_MOST_BASE) : FnOk P w K mg base CX0 1 a_is_listing fd ["thing"] (lift K (sp_is_listing)) := by
  refine fn_ok (ds := d_is_listing) F sc_is_listing (len_is_listing) (fun cdv A outer s H E B hr hB hm => ?_) (d_is_listing_ok)
  exact (q_cons (q_ret hm (q_isi2 (c := .lst) (c2 := .tup) (toV (q_var (pv 0))) rfl T.b_isinstance rfl T.b_list (by rfl) rfl T.b_tuple (by rfl))) q_nil)
theorem sc_is_whole : FnScope N_is_whole ["thing"] (defScope s_is_whole) := ⟨rfl, rfl, rfl, by decide +kernel, rfl, by decide +kernel, by decide +kernel⟩
theorem ok_is_whole {fd : FuncData} (F : Fun K "is_whole" "is_whole" s_is_whole a_is_whole fd) (T : Tx K mg a__law_last_3 a__law_at_2 a__law_draw_2 a__law_pick_2 a__law_begun_3 a__law_whole a__law_bent_row a__law_bent a__law_many_2 a__law_dot a__law_shares a__law_mark a__law_paper_2 a__law_signed a__law_tape a_parted a_mark_by a_House_base a_heap_of a_House_ahead_of a_House_said a_mark_paper_2 a_is_listing a_is_whole a_are_rows a_follows_row a_shows_mark a_is_base a_is_count a_is_beginning a_House___init__ a_law a_House tk_LEAST_BASE tk_MOST_BASE) : FnOk P w K mg base CX0 1 a_is_whole fd ["thing"] (lift K (sp_is_whole)) := by
  refine fn_ok (ds := d_is_whole) F sc_is_whole (len_is_whole) (fun cdv A outer s H E B hr hB hm => ?_) (d_is_whole_ok)
  exact (q_cons (q_ret hm (q_andV (q_isi (c := .int) (toV (q_var (pv 0))) rfl T.b_isinstance rfl T.b_int (by rfl)) (q_one (q_notV (q_isi (c := .bl) (toV (q_var (pv 0))) rfl T.b_isinstance rfl T.b_bool (by rfl)))))) q_nil)
theorem sc_are_rows : FnScope N_are_rows ["thing"] (defScope s_are_rows) := ⟨rfl, rfl, rfl, by decide +kernel, rfl, by decide +kernel, by decide +kernel⟩
theorem ok_are_rows {fd fd_is_listing fd_is_whole : FuncData} (F : Fun K "are_rows" "are_rows" s_are_rows a_are_rows fd) (T : Tx K mg a__law_last_3 a__law_at_2 a__law_draw_2 a__law_pick_2 a__law_begun_3 a__law_whole a__law_bent_row a__law_bent a__law_many_2 a__law_dot a__law_shares a__law_mark a__law_paper_2 a__law_signed a__law_tape a_parted a_mark_by a_House_base a_heap_of a_House_ahead_of a_House_said a_mark_paper_2 a_is_listing a_is_whole a_are_rows a_follows_row a_shows_mark a_is_base a_is_count a_is_beginning a_House___init__ a_law a_House tk_LEAST_BASE tk_MOST_BASE) (G_is_listing : FnOk P w K mg base CX0 1 a_is_listing fd_is_listing ["thing"] (lift K (sp_is_listing))) (b_is_listing : Binds K fd_is_listing ["thing"] []) (G_is_whole : FnOk P w K mg base CX0 1 a_is_whole fd_is_whole ["thing"] (lift K (sp_is_whole))) (b_is_whole : Binds K fd_is_whole ["thing"] []) : FnOk P w K mg base CX0 2 a_are_rows fd ["thing"] (lift K (sp_are_rows)) := by
  refine fn_ok (ds := d_are_rows) F sc_are_rows (len_are_rows) (fun cdv A outer s H E B hr hB hm => ?_) (d_are_rows_ok)
  exact (q_cons (q_if (L2.PW.pt (q_or (q_not (q_tval (q_call G_is_listing (hr.mono (by decide)) rfl T.g_is_listing T.k_is_listing b_is_listing .nil (fun _ _ => RelL.nil) pass0 (q_acons (q_var (pv 0)) q_anil)))) (q_or1 (q_tcmp (op_eqD hr.units) rop_eq (toV (q_callB call_len3 rc_len (by rfl) T.b_len (by decide +kernel) (q_xcons (toV (q_var (pv 0))) q_xnil))) (toV q_int) (nomark _))))) (q_cons (q_ret hm q_bl) q_nil) q_nil) (q_cons (q_for PassesOwn.never rfl (q_iany (q_var (pv 0))) (q_gname (vs := [1]) (pg_name (i := 1) sc_are_rows.nd rfl (Or.inl rfl)) (by decide)) (q_cons (q_if (L2.PW.pt (q_or (q_not (q_tval (q_isi (c := .tup) (toV (q_var (pv 1))) rfl T.b_isinstance rfl T.b_tuple (by rfl)))) (q_or (q_tcmp (op_neD hr.units) rop_ne (toV (q_callB call_len3 rc_len (by rfl) T.b_len (by decide +kernel) (q_xcons (toV (q_var (pv 1))) q_xnil))) (toV q_int) (nomark _)) (q_or1 (q_not (q_tval (q_callB (cr_all rfl) rc_all (by rfl) T.b_all (by decide +kernel) (q_xcons (toV (toE (q_lc (own := [("part", 2)]) rfl sc_are_rows.nd (q_iany (q_var (pv 1))) (blkOk_by (N := N_are_rows) (sc := defScope s_are_rows) (own := [("part", 2)]) (by decide +kernel)) (fun _ _ _ _ _ B => (q_gname (vs := [2]) (pg_name (i := 2) sc_are_rows.nd rfl (Or.inl rfl)) (by decide))) (fun _ _ _ _ _ => pts_U0) (fun _ _ _ _ _ B => (q_call G_is_whole (hr.mono (by decide)) rfl T.g_is_whole T.k_is_whole b_is_whole .nil (fun _ _ => RelL.nil) pass0 (q_acons (q_var (pv 2)) q_anil)))))) q_xnil)))))))) (q_cons (q_ret hm q_bl) q_nil) q_nil) q_nil)) (q_cons (q_ret hm q_bl) q_nil)))
theorem sc_follows_row : FnScope N_follows_row ["base", "row", "head"] (defScope s_follows_row) := ⟨rfl, rfl, rfl, by decide +kernel, rfl, by decide +kernel, by decide +kernel⟩
theorem ok_follows_row {fd : FuncData} (F : Fun K "follows_row" "follows_row" s_follows_row a_follows_row fd) (T : Tx K mg a__law_last_3 a__law_at_2 a__law_draw_2 a__law_pick_2 a__law_begun_3 a__law_whole a__law_bent_row a__law_bent a__law_many_2 a__law_dot a__law_shares a__law_mark a__law_paper_2 a__law_signed a__law_tape a_parted a_mark_by a_House_base a_heap_of a_House_ahead_of a_House_said a_mark_paper_2 a_is_listing a_is_whole a_are_rows a_follows_row a_shows_mark a_is_base a_is_count a_is_beginning a_House___init__ a_law a_House tk_LEAST_BASE tk_MOST_BASE) : FnOk P w K mg base CX0 1 a_follows_row fd ["base", "row", "head"] (lift K (sp_follows_row)) := by
  refine fn_ok (ds := d_follows_row) F sc_follows_row (len_follows_row) (fun cdv A outer s H E B hr hB hm => ?_) (d_follows_row_ok)
  exact (q_cons (q_asg (q_var (pv 1)) (q_gtup (n := 3) rfl (q_gcons (q_gname (vs := [3, 4, 5]) (pg_name (i := 3) sc_follows_row.nd rfl (Or.inl rfl)) (by decide)) (q_gcons (q_gname (vs := [3, 4, 5]) (pg_name (i := 4) sc_follows_row.nd rfl (Or.inl rfl)) (by decide)) (q_gcons (q_gname (vs := [3, 4, 5]) (pg_name (i := 5) sc_follows_row.nd rfl (Or.inl rfl)) (by decide)) q_gnil))))) (q_cons (q_asg (q_callB call_divmod rc_divmod (by rfl) T.b_divmod (by decide +kernel) (q_xcons (toV (q_var (pv 3))) (q_xcons (toV (q_var (pv 0))) q_xnil))) (q_gtup (n := 2) rfl (q_gcons (q_gname (vs := [6, 7]) (pg_name (i := 6) sc_follows_row.nd rfl (Or.inl rfl)) (by decide)) (q_gcons (q_gname (vs := [6, 7]) (pg_name (i := 7) sc_follows_row.nd rfl (Or.inl rfl)) (by decide)) q_gnil)))) (q_cons (q_if (q_tcmp (op_neD hr.units) rop_ne (toV (q_ix (toV (q_var (pv 2))) (toV q_int) (fun _ _ => rfl))) (toV (q_var (pv 6))) (nomark _)) (q_cons (q_ret hm q_bl) q_nil) q_nil) (q_cons (q_if (q_tcmp (op_neD hr.units) rop_ne (toV (q_var (pv 4))) (toV (q_op op_add4 rop_add (toV (q_op op_mul3 rop_mul (toV (q_op op_sub rop_sub (toV (q_var (pv 0))) (toV (q_var (pv 7))))) (toV (q_ix (toV (q_var (pv 2))) (toV q_int) (fun _ _ => rfl))))) (toV (q_op op_mul3 rop_mul (toV (q_var (pv 7))) (toV (q_ix (toV (q_var (pv 2))) (toV q_int) (fun _ _ => rfl))))))) (nomark _)) (q_cons (q_ret hm q_bl) q_nil) q_nil) (q_cons (q_ret hm (q_cmp (op_eqD hr.units) rop_eq (toV (q_var (pv 5))) (toV (q_op op_add4 rop_add (toV (q_op op_mul3 rop_mul (toV (q_op op_sub rop_sub (toV (q_op op_sub rop_sub (toV (q_var (pv 0))) (toV (q_var (pv 7))))) (toV q_int))) (toV (q_ix (toV (q_var (pv 2))) (toV q_int) (fun _ _ => rfl))))) (toV (q_op op_mul3 rop_mul (toV (q_op op_add4 rop_add (toV (q_var (pv 7))) (toV q_int))) (toV (q_ix (toV (q_var (pv 2))) (toV q_int) (fun _ _ => rfl))))))) (nomark _))) q_nil)))))
theorem sc_shows_mark : FnScope N_shows_mark ["house", "marks", "place", "paper"] (defScope s_shows_mark) := ⟨rfl, rfl, rfl, by decide +kernel, rfl, by decide +kernel, by decide +kernel⟩
theorem ok_shows_mark {fd fd_are_rows fd_follows_row fd_House_base fd_House_said : FuncData} (F : Fun K "shows_mark" "shows_mark" s_shows_mark a_shows_mark fd) (T : Tx K mg a__law_last_3 a__law_at_2 a__law_draw_2 a__law_pick_2 a__law_begun_3 a__law_whole a__law_bent_row a__law_bent a__law_many_2 a__law_dot a__law_shares a__law_mark a__law_paper_2 a__law_signed a__law_tape a_parted a_mark_by a_House_base a_heap_of a_House_ahead_of a_House_said a_mark_paper_2 a_is_listing a_is_whole a_are_rows a_follows_row a_shows_mark a_is_base a_is_count a_is_beginning a_House___init__ a_law a_House tk_LEAST_BASE tk_MOST_BASE) (G_are_rows : FnOk P w K mg base CX0 2 a_are_rows fd_are_rows ["thing"] (lift K (sp_are_rows))) (b_are_rows : Binds K fd_are_rows ["thing"] []) (G_follows_row : FnOk P w K mg base CX0 1 a_follows_row fd_follows_row ["base", "row", "head"] (lift K (sp_follows_row))) (b_follows_row : Binds K fd_follows_row ["base", "row", "head"] []) (G_House_base : FnOk P w K mg base CX0 1 a_House_base fd_House_base ["self"] (lift K (sp_House_base (Cl.mk a_House a_law a_law a_law a_law)))) (b_House_base : Binds K fd_House_base ["self"] []) (G_House_said : FnOk P w K mg base CX0 2 a_House_said fd_House_said ["self", "place"] (lift K (sp_House_said (Cl.mk a_House a_law a_law a_law a_law)))) (b_House_said : Binds K fd_House_said ["self", "place"] []) : FnOk P w K mg base CX0 3 a_shows_mark fd ["house", "marks", "place", "paper"] (lift K (sp_shows_mark (Cl.mk a_House a_law a_law a_law a_law))) := by
  refine fn_ok (ds := d_shows_mark (Cl.mk a_House a_law a_law a_law a_law)) F sc_shows_mark (len_shows_mark (Cl.mk a_House a_law a_law a_law a_law)) (fun cdv A outer s H E B hr hB hm => ?_) (d_shows_mark_ok (Cl.mk a_House a_law a_law a_law a_law))
  exact (q_cons (q_set (i := 4) sc_shows_mark.nd rfl (Or.inl rfl) (q_meth0 (q_var (pv 0)) T.cl_House T.m_House_base G_House_base (hr.mono (by decide)) b_House_base .nil (fun _ _ => RelL.nil) pass0)) (q_cons (q_if (L2.PW.pt (q_or (q_not (q_tval (q_call G_are_rows (hr.mono (by decide)) rfl T.g_are_rows T.k_are_rows b_are_rows .nil (fun _ _ => RelL.nil) pass0 (q_acons (q_var (pv 3)) q_anil)))) (q_or1 (q_tcmp (op_neD hr.units) rop_ne (toV (q_ix (toV (q_ix (toV (q_var (pv 3))) (toV q_int) (fun _ _ => rfl))) (toV q_int) (fun _ _ => rfl))) (toV (q_meth (q_var (pv 0)) T.cl_House T.m_House_said G_House_said (hr.mono (by decide)) b_House_said .nil (fun _ _ => RelL.nil) pass0 (q_acons (q_var (pv 2)) q_anil))) (nomark _))))) (q_cons (q_ret hm q_bl) q_nil) q_nil) (q_cons (q_for PassesOwn.never rfl (q_irng1 (by rfl) T.b_range (toV (q_op op_sub rop_sub (toV (q_callB call_len3 rc_len (by rfl) T.b_len (by decide +kernel) (q_xcons (toV (q_var (pv 3))) q_xnil))) (toV q_int)))) (q_gname (vs := [5]) (pg_name (i := 5) sc_shows_mark.nd rfl (Or.inl rfl)) (by decide)) (q_cons (q_if (L2.PW.pt (q_or (q_tcmp op_lt rop_lt (toV (q_ix (toV (q_ix (toV (q_var (pv 3))) (toV (q_var (pv 5))) (fun _ _ => rfl))) (toV q_int) (fun _ _ => rfl))) (toV (q_var (pv 4))) (nomark _)) (q_or1 (q_not (q_tval (q_call G_follows_row (hr.mono (by decide)) rfl T.g_follows_row T.k_follows_row b_follows_row .nil (fun _ _ => RelL.nil) pass0 (q_acons (q_var (pv 4)) (q_acons (q_ix (toV (q_var (pv 3))) (toV (q_var (pv 5))) (fun _ _ => rfl)) (q_acons (q_ix (toV (q_var (pv 3))) (toV (q_op op_add4 rop_add (toV (q_var (pv 5))) (toV q_int))) (fun _ _ => rfl)) q_anil))))))))) (q_cons (q_ret hm q_bl) q_nil) q_nil) q_nil)) (q_cons (q_asg (q_ix (toV (q_var (pv 3))) (toV (q_un un_neg run_neg (toV q_int))) (fun _ _ => rfl)) (q_gtup (n := 3) rfl (q_gcons (q_gname (vs := [6, 7, 8]) (pg_name (i := 6) sc_shows_mark.nd rfl (Or.inl rfl)) (by decide)) (q_gcons (q_gname (vs := [6, 7, 8]) (pg_name (i := 7) sc_shows_mark.nd rfl (Or.inl rfl)) (by decide)) (q_gcons (q_gname (vs := [6, 7, 8]) (pg_name (i := 8) sc_shows_mark.nd rfl (Or.inl rfl)) (by decide)) q_gnil))))) (q_cons (q_if (L2.PW.pt (q_or (q_not (q_tchain op_lt rop_lt op_lt rop_lt (toV q_int) (toV (q_var (pv 6))) (toV (q_var (pv 4))))) (q_or1 (q_tcmp (op_neD hr.units) rop_ne (toV (q_var (pv 7))) (toV (q_ix (toV (q_var (pv 1))) (toV (q_op op_sub rop_sub (toV (q_var (pv 6))) (toV q_int))) (fun _ _ => rfl))) (nomark _))))) (q_cons (q_ret hm q_bl) q_nil) q_nil) (q_cons (q_ret hm (q_cmp (op_eqD hr.units) rop_eq (toV (q_var (pv 8))) (toV (q_ifE (q_tcmp op_lt rop_lt (toV (q_var (pv 6))) (toV (q_op op_sub rop_sub (toV (q_var (pv 4))) (toV q_int))) (nomark _)) (q_ix (toV (q_var (pv 1))) (toV (q_var (pv 6))) (fun _ _ => rfl)) (q_op op_mul3 rop_mul (toV (q_var (pv 4))) (toV (q_ix (toV (q_var (pv 1))) (toV q_int) (fun _ _ => rfl)))))) (nomark _))) q_nil))))))
theorem sc_is_base : FnScope N_is_base ["thing"] (defScope s_is_base) := ⟨rfl, rfl, rfl, by decide +kernel, rfl, by decide +kernel, by decide +kernel⟩
theorem ok_is_base {fd fd_is_whole : FuncData} (F : Fun K "is_base" "is_base" s_is_base a_is_base fd) (T : Tx K mg a__law_last_3 a__law_at_2 a__law_draw_2 a__law_pick_2 a__law_begun_3 a__law_whole a__law_bent_row a__law_bent a__law_many_2 a__law_dot a__law_shares a__law_mark a__law_paper_2 a__law_signed a__law_tape a_parted a_mark_by a_House_base a_heap_of a_House_ahead_of a_House_said a_mark_paper_2 a_is_listing a_is_whole a_are_rows a_follows_row a_shows_mark a_is_base a_is_count a_is_beginning a_House___init__ a_law a_House tk_LEAST_BASE tk_MOST_BASE) (G_is_whole : FnOk P w K mg base CX0 1 a_is_whole fd_is_whole ["thing"] (lift K (sp_is_whole))) (b_is_whole : Binds K fd_is_whole ["thing"] []) : FnOk P w K mg base CX0 2 a_is_base fd ["thing"] (lift K (sp_is_base)) := by
  refine fn_ok (ds := d_is_base) F sc_is_base (len_is_base) (fun cdv A outer s H E B hr hB hm => ?_) (d_is_base_ok)
  exact (q_cons (q_ret hm (q_andV (q_call G_is_whole (hr.mono (by decide)) rfl T.g_is_whole T.k_is_whole b_is_whole .nil (fun _ _ => RelL.nil) pass0 (q_acons (q_var (pv 0)) q_anil)) (q_one (q_chain op_le rop_le op_le rop_le (toV (q_c (pe_glob (v := (.int 2)) rfl T.c_LEAST_BASE ⟨_, rfl⟩) (fun _ _ => rD_int _))) (toV (q_var (pv 0))) (toV (q_c (pe_glob (v := (.int 30)) rfl T.c_MOST_BASE ⟨_, rfl⟩) (fun _ _ => rD_int _))))))) q_nil)
theorem sc_is_count : FnScope N_is_count ["thing"] (defScope s_is_count) := ⟨rfl, rfl, rfl, by decide +kernel, rfl, by decide +kernel, by decide +kernel⟩
theorem ok_is_count {fd fd_is_whole : FuncData} (F : Fun K "is_count" "is_count" s_is_count a_is_count fd) (T : Tx K mg a__law_last_3 a__law_at_2 a__law_draw_2 a__law_pick_2 a__law_begun_3 a__law_whole a__law_bent_row a__law_bent a__law_many_2 a__law_dot a__law_shares a__law_mark a__law_paper_2 a__law_signed a__law_tape a_parted a_mark_by a_House_base a_heap_of a_House_ahead_of a_House_said a_mark_paper_2 a_is_listing a_is_whole a_are_rows a_follows_row a_shows_mark a_is_base a_is_count a_is_beginning a_House___init__ a_law a_House tk_LEAST_BASE tk_MOST_BASE) (G_is_whole : FnOk P w K mg base CX0 1 a_is_whole fd_is_whole ["thing"] (lift K (sp_is_whole))) (b_is_whole : Binds K fd_is_whole ["thing"] []) : FnOk P w K mg base CX0 2 a_is_count fd ["thing"] (lift K (sp_is_count)) := by
  refine fn_ok (ds := d_is_count) F sc_is_count (len_is_count) (fun cdv A outer s H E B hr hB hm => ?_) (d_is_count_ok)
  exact (q_cons (q_ret hm (q_andV (q_call G_is_whole (hr.mono (by decide)) rfl T.g_is_whole T.k_is_whole b_is_whole .nil (fun _ _ => RelL.nil) pass0 (q_acons (q_var (pv 0)) q_anil)) (q_one (q_cmp op_gt rop_gt (toV (q_var (pv 0))) (toV q_int) (nomark _))))) q_nil)
theorem sc_is_beginning : FnScope N_is_beginning ["base", "thing"] (defScope s_is_beginning) := ⟨rfl, rfl, rfl, by decide +kernel, rfl, by decide +kernel, by decide +kernel⟩
theorem ok_is_beginning {fd fd_is_count fd_is_listing : FuncData} (F : Fun K "is_beginning" "is_beginning" s_is_beginning a_is_beginning fd) (T : Tx K mg a__law_last_3 a__law_at_2 a__law_draw_2 a__law_pick_2 a__law_begun_3 a__law_whole a__law_bent_row a__law_bent a__law_many_2 a__law_dot a__law_shares a__law_mark a__law_paper_2 a__law_signed a__law_tape a_parted a_mark_by a_House_base a_heap_of a_House_ahead_of a_House_said a_mark_paper_2 a_is_listing a_is_whole a_are_rows a_follows_row a_shows_mark a_is_base a_is_count a_is_beginning a_House___init__ a_law a_House tk_LEAST_BASE tk_MOST_BASE) (G_is_count : FnOk P w K mg base CX0 2 a_is_count fd_is_count ["thing"] (lift K (sp_is_count))) (b_is_count : Binds K fd_is_count ["thing"] []) (G_is_listing : FnOk P w K mg base CX0 1 a_is_listing fd_is_listing ["thing"] (lift K (sp_is_listing))) (b_is_listing : Binds K fd_is_listing ["thing"] []) : FnOk P w K mg base CX0 3 a_is_beginning fd ["base", "thing"] (lift K (sp_is_beginning)) := by
  refine fn_ok (ds := d_is_beginning) F sc_is_beginning (len_is_beginning) (fun cdv A outer s H E B hr hB hm => ?_) (d_is_beginning_ok)
  exact (q_cons (q_if (L2.PW.pt (q_or (q_not (q_tval (q_call G_is_listing (hr.mono (by decide)) rfl T.g_is_listing T.k_is_listing b_is_listing .nil (fun _ _ => RelL.nil) pass0 (q_acons (q_var (pv 1)) q_anil)))) (q_or1 (q_tcmp (op_neD hr.units) rop_ne (toV (q_callB call_len3 rc_len (by rfl) T.b_len (by decide +kernel) (q_xcons (toV (q_var (pv 1))) q_xnil))) (toV (q_op op_sub rop_sub (toV (q_var (pv 0))) (toV q_int))) (nomark _))))) (q_cons (q_ret hm q_bl) q_nil) q_nil) (q_cons (q_ret hm (q_callB (cr_all rfl) rc_all (by rfl) T.b_all (by decide +kernel) (q_xcons (toV (toE (q_lc (own := [("many", 2)]) rfl sc_is_beginning.nd (q_iany (q_var (pv 1))) (blkOk_by (N := N_is_beginning) (sc := defScope s_is_beginning) (own := [("many", 2)]) (by decide +kernel)) (fun _ _ _ _ _ B => (q_gname (vs := [2]) (pg_name (i := 2) sc_is_beginning.nd rfl (Or.inl rfl)) (by decide))) (fun _ _ _ _ _ => pts_U0) (fun _ _ _ _ _ B => (q_call G_is_count (hr.mono (by decide)) rfl T.g_is_count T.k_is_count b_is_count .nil (fun _ _ => RelL.nil) pass0 (q_acons (q_var (pv 2)) q_anil)))))) q_xnil))) q_nil))
theorem sc_House___init__ : FnScope N_House___init__ ["self", "k", "beginning"] (defScope s_House___init__) := ⟨rfl, rfl, rfl, by decide +kernel, rfl, by decide +kernel, by decide +kernel⟩
theorem ok_House___init__ {fd fd_is_base fd_is_beginning : FuncData} (F : Fun K "__init__" "House.__init__" s_House___init__ a_House___init__ fd) (T : Tx K mg a__law_last_3 a__law_at_2 a__law_draw_2 a__law_pick_2 a__law_begun_3 a__law_whole a__law_bent_row a__law_bent a__law_many_2 a__law_dot a__law_shares a__law_mark a__law_paper_2 a__law_signed a__law_tape a_parted a_mark_by a_House_base a_heap_of a_House_ahead_of a_House_said a_mark_paper_2 a_is_listing a_is_whole a_are_rows a_follows_row a_shows_mark a_is_base a_is_count a_is_beginning a_House___init__ a_law a_House tk_LEAST_BASE tk_MOST_BASE) (G_is_base : FnOk P w K mg base CX0 2 a_is_base fd_is_base ["thing"] (lift K (sp_is_base))) (b_is_base : Binds K fd_is_base ["thing"] []) (G_is_beginning : FnOk P w K mg base CX0 3 a_is_beginning fd_is_beginning ["base", "thing"] (lift K (sp_is_beginning))) (b_is_beginning : Binds K fd_is_beginning ["base", "thing"] []) : FnOk P w K mg base CX0 4 a_House___init__ fd ["self", "k", "beginning"] (liftI K a_House (sp_House___init__ (Cl.mk a_House a_law a_law a_law a_law))) := by
  refine fn_okI (ds := d_House___init__ (Cl.mk a_House a_law a_law a_law a_law)) F sc_House___init__ (len_House___init__ (Cl.mk a_House a_law a_law a_law a_law)) (np_House___init__ (Cl.mk a_House a_law a_law a_law a_law)) (fun cdv A outer s H E hr => ?_) (d_House___init___ok (Cl.mk a_House a_law a_law a_law a_law))
  exact (i_cons (i_guard fun B => (q_not (q_tval (q_call G_is_base (hr.mono (by decide)) rfl T.g_is_base T.k_is_base b_is_base .nil (fun _ _ => RelL.nil) pass0 (q_acons (q_var (pv 1)) q_anil))))) (i_cons (i_guard fun B => (q_not (q_tval (q_call G_is_beginning (hr.mono (by decide)) rfl T.g_is_beginning T.k_is_beginning b_is_beginning .nil (fun _ _ => RelL.nil) pass0 (q_acons (q_var (pv 1)) (q_acons (q_var (pv 2)) q_anil)))))) (i_cons (i_set (pv 0) (fun B => (q_var (pv 1))) T.cl_House T.n_House_kept_base) (i_cons (i_set (pv 0) (fun B => (toE (q_callTyN call_list_of rc_list (by rfl) T.b_list (by decide +kernel) (q_xcons (toV (q_var (pv 2))) q_xnil)))) T.cl_House T.n_House_kept_beginning) (i_sums (pv 0) (pv 2) (pg_name (i := 3) sc_House___init__.nd rfl (Or.inl rfl)) (pe_bm PySem.F.plainAttrs_list PySem.F.slot_list_append PySem.F.type_list_append mt_append (pe_fld (pv 0) rfl) (pa_cons (pe_U fun B => (q_op op_add4 rop_add (toV (q_op op_sub rop_sub (toV (q_var (pv 3))) (toV q_int))) (toV (q_ifE (q_tcmp (op_neD hr.units) rop_ne (toV (q_fld (toV (q_var (pv 0))) T.cl_House T.n_House_sums)) (toV (toE (q_lst q_anil))) (nomark _)) (q_ix (toV (q_fld (toV (q_var (pv 0))) T.cl_House T.n_House_sums)) (toV (q_un un_neg run_neg (toV q_int))) (fun _ _ => rfl)) q_int)))) pa_nil)) (sumsE_House (Cl.mk a_House a_law a_law a_law a_law)) T.cl_House T.n_House_sums PassesOwn.never rfl (by decide))))))
theorem sc_law : FnScope N_law ["_law_script"] (defScope s_law) := ⟨rfl, rfl, rfl, by decide +kernel, rfl, by decide +kernel, by decide +kernel⟩
theorem ok_law {fd fd__law_at_2 fd__law_begun_3 fd__law_bent fd__law_draw_2 fd__law_many_2 fd__law_paper_2 fd__law_pick_2 fd__law_signed fd__law_tape fd_mark_paper_2 fd_shows_mark fd_House___init__ : FuncData} (F : Fun K "law" "law" s_law a_law fd) (T : Tx K mg a__law_last_3 a__law_at_2 a__law_draw_2 a__law_pick_2 a__law_begun_3 a__law_whole a__law_bent_row a__law_bent a__law_many_2 a__law_dot a__law_shares a__law_mark a__law_paper_2 a__law_signed a__law_tape a_parted a_mark_by a_House_base a_heap_of a_House_ahead_of a_House_said a_mark_paper_2 a_is_listing a_is_whole a_are_rows a_follows_row a_shows_mark a_is_base a_is_count a_is_beginning a_House___init__ a_law a_House tk_LEAST_BASE tk_MOST_BASE) (G__law_at_2 : FnOk P w K mg base CX0 2 a__law_at_2 fd__law_at_2 ["_law_base", "_law_begun_here", "_law_spot"] (lift K (sp__law_at_2))) (b__law_at_2 : Binds K fd__law_at_2 ["_law_base", "_law_begun_here", "_law_spot"] []) (G__law_begun_3 : FnOk P w K mg base CX0 3 a__law_begun_3 fd__law_begun_3 ["_law_tape_here", "_law_base", "_law_most"] (lift K (sp__law_begun_3))) (b__law_begun_3 : Binds K fd__law_begun_3 ["_law_tape_here", "_law_base", "_law_most"] []) (G__law_bent : FnOk P w K mg base CX0 4 a__law_bent fd__law_bent ["_law_tape_here", "_law_paper_here"] (lift K (sp__law_bent))) (b__law_bent : Binds K fd__law_bent ["_law_tape_here", "_law_paper_here"] []) (G__law_draw_2 : FnOk P w K mg base CX0 1 a__law_draw_2 fd__law_draw_2 ["_law_tape_here", "_law_many_here"] (lift K (sp__law_draw_2))) (b__law_draw_2 : Binds K fd__law_draw_2 ["_law_tape_here", "_law_many_here"] []) (G__law_many_2 : FnOk P w K mg base CX0 2 a__law_many_2 fd__law_many_2 ["_law_tape_here", "_law_figures"] (lift K (sp__law_many_2))) (b__law_many_2 : Binds K fd__law_many_2 ["_law_tape_here", "_law_figures"] []) (G__law_paper_2 : FnOk P w K mg base CX0 3 a__law_paper_2 fd__law_paper_2 ["_law_base", "_law_marks", "_law_number"] (lift K (sp__law_paper_2))) (b__law_paper_2 : Binds K fd__law_paper_2 ["_law_base", "_law_marks", "_law_number"] []) (G__law_pick_2 : FnOk P w K mg base CX0 2 a__law_pick_2 fd__law_pick_2 ["_law_tape_here", "_law_some"] (lift K (sp__law_pick_2))) (b__law_pick_2 : Binds K fd__law_pick_2 ["_law_tape_here", "_law_some"] []) (G__law_signed : FnOk P w K mg base CX0 3 a__law_signed fd__law_signed ["_law_tape_here", "_law_figures"] (lift K (sp__law_signed))) (b__law_signed : Binds K fd__law_signed ["_law_tape_here", "_law_figures"] []) (G__law_tape : FnOk P w K mg base CX0 1 a__law_tape fd__law_tape ["_law_script"] (liftN K (sp__law_tape))) (b__law_tape : Binds K fd__law_tape ["_law_script"] []) (G_mark_paper_2 : FnOk P w K mg base CX0 3 a_mark_paper_2 fd_mark_paper_2 ["house", "marks", "place"] (liftN K (sp_mark_paper_2 (Cl.mk a_House a_law a_law a_law a_law)))) (b_mark_paper_2 : Binds K fd_mark_paper_2 ["house", "marks", "place"] []) (G_shows_mark : FnOk P w K mg base CX0 3 a_shows_mark fd_shows_mark ["house", "marks", "place", "paper"] (lift K (sp_shows_mark (Cl.mk a_House a_law a_law a_law a_law)))) (b_shows_mark : Binds K fd_shows_mark ["house", "marks", "place", "paper"] []) (G_House___init__ : FnOk P w K mg base CX0 4 a_House___init__ fd_House___init__ ["self", "k", "beginning"] (liftI K a_House (sp_House___init__ (Cl.mk a_House a_law a_law a_law a_law)))) (b_House___init__ : Binds K fd_House___init__ ["self", "k", "beginning"] []) : FnOkG P w K mg base CX0 6 a_law fd ["_law_script"] (spLaw K) := by
  refine fn_lawG (i := 1) (dp := dCall sp__law_tape [] (dCons (dVar 0) dNil)) (ds := d_law (Cl.mk a_House a_law a_law a_law a_law)) F sc_law rfl (fun cdv A outer s H E B hr0 => ?_) (fun cdv A outer s H E B hr0 hB hm => ?_) ⟨by decide, by decide⟩ true (d_law_ok (Cl.mk a_House a_law a_law a_law a_law))
  · have hr := hr0.room
    exact ps_set (i := 1) sc_law.nd rfl (Or.inr rfl) (q_callN G__law_tape (hr.mono (by decide)) rfl T.g__law_tape T.k__law_tape b__law_tape .nil (fun _ _ => RelL.nil) pass0 (q_acons (q_var (pv 0)) q_anil))
  · have hr := hr0.room
    exact (q_cons (q_for PassesOwn.never rfl (q_irng1 (by rfl) T.b_range (toV q_int)) (q_gname (vs := [2]) (pg_name (i := 2) sc_law.nd rfl (Or.inl rfl)) (by decide)) (q_cons (q_set (i := 3) sc_law.nd rfl (Or.inl rfl) (q_call G__law_pick_2 (hr.mono (by decide)) rfl T.g__law_pick_2 T.k__law_pick_2 b__law_pick_2 .nil (fun _ _ => RelL.nil) pass0 (q_acons (q_var (pv 1)) (q_acons (toE (q_lst (q_acons (q_op op_add4 rop_add (toV q_int) (toV (q_call G__law_draw_2 (hr.mono (by decide)) rfl T.g__law_draw_2 T.k__law_draw_2 b__law_draw_2 .nil (fun _ _ => RelL.nil) pass0 (q_acons (q_var (pv 1)) (q_acons q_int q_anil))))) (q_acons (q_op op_add4 rop_add (toV q_int) (toV (q_call G__law_draw_2 (hr.mono (by decide)) rfl T.g__law_draw_2 T.k__law_draw_2 b__law_draw_2 .nil (fun _ _ => RelL.nil) pass0 (q_acons (q_var (pv 1)) (q_acons q_int q_anil))))) q_anil)))) q_anil)))) (q_cons (q_set (i := 4) sc_law.nd rfl (Or.inl rfl) (q_call G__law_begun_3 (hr.mono (by decide)) rfl T.g__law_begun_3 T.k__law_begun_3 b__law_begun_3 .nil (fun _ _ => RelL.nil) pass0 (q_acons (q_var (pv 1)) (q_acons (q_var (pv 3)) (q_acons (q_call G__law_pick_2 (hr.mono (by decide)) rfl T.g__law_pick_2 T.k__law_pick_2 b__law_pick_2 .nil (fun _ _ => RelL.nil) pass0 (q_acons (q_var (pv 1)) (q_acons (toE (q_lst (q_acons q_int (q_acons (q_op op_powW rop_pow (toV q_int) (toV q_int)) q_anil)))) q_anil))) q_anil))))) (q_cons (q_par (i := 6) (j := 7) rfl sc_law.nd rfl rfl (by decide) rfl rfl (q_acons (toE (q_make T.mk_House G_House___init__ (hr.mono (by decide)) rfl T.g_House b_House___init__ .nil (fun _ _ => RelL.nil) pass0 (q_acons (q_var (pv 3)) (q_acons (q_var (pv 4)) q_anil)))) (q_acons (toE (q_lc (own := [("_law_k", 16)]) rfl sc_law.nd (q_irng1 (by rfl) T.b_range (toV (q_op op_sub rop_sub (toV (q_var (pv 3))) (toV q_int)))) (blkOk_by (N := N_law) (sc := defScope s_law) (own := [("_law_k", 16)]) (by decide +kernel)) (fun _ _ _ _ _ B => (q_gname (vs := [16]) (pg_name (i := 16) sc_law.nd rfl (Or.inl rfl)) (by decide))) (fun _ _ _ _ _ => pts_U0) (fun _ _ _ _ _ B => (q_call G__law_signed (hr.mono (by decide)) rfl T.g__law_signed T.k__law_signed b__law_signed .nil (fun _ _ => RelL.nil) pass0 (q_acons (q_var (pv 1)) (q_acons q_int q_anil)))))) q_anil)) (by rfl)) (q_cons (q_for PassesOwn.never rfl (q_irng1 (by rfl) T.b_range (toV q_int)) (q_gname (vs := [5]) (pg_name (i := 5) sc_law.nd rfl (Or.inl rfl)) (by decide)) (q_cons (q_set (i := 8) sc_law.nd rfl (Or.inl rfl) (q_call G__law_pick_2 (hr.mono (by decide)) rfl T.g__law_pick_2 T.k__law_pick_2 b__law_pick_2 .nil (fun _ _ => RelL.nil) pass0 (q_acons (q_var (pv 1)) (q_acons (toE (q_lst (q_acons (q_call G__law_draw_2 (hr.mono (by decide)) rfl T.g__law_draw_2 T.k__law_draw_2 b__law_draw_2 .nil (fun _ _ => RelL.nil) pass0 (q_acons (q_var (pv 1)) (q_acons q_int q_anil))) (q_acons (q_call G__law_draw_2 (hr.mono (by decide)) rfl T.g__law_draw_2 T.k__law_draw_2 b__law_draw_2 .nil (fun _ _ => RelL.nil) pass0 (q_acons (q_var (pv 1)) (q_acons q_int q_anil))) (q_acons (q_call G__law_many_2 (hr.mono (by decide)) rfl T.g__law_many_2 T.k__law_many_2 b__law_many_2 .nil (fun _ _ => RelL.nil) pass0 (q_acons (q_var (pv 1)) (q_acons q_int q_anil))) (q_acons (q_call G__law_many_2 (hr.mono (by decide)) rfl T.g__law_many_2 T.k__law_many_2 b__law_many_2 .nil (fun _ _ => RelL.nil) pass0 (q_acons (q_var (pv 1)) (q_acons q_int q_anil))) q_anil)))))) q_anil)))) (q_cons (q_set (i := 8) sc_law.nd rfl (Or.inl rfl) (q_op op_add4 rop_add (toV q_int) (toV (q_var (pv 8))))) (q_cons (q_par (i := 13) (j := 14) rfl sc_law.nd rfl rfl (by decide) rfl rfl (q_acons (q_call G__law_paper_2 (hr.mono (by decide)) rfl T.g__law_paper_2 T.k__law_paper_2 b__law_paper_2 .nil (fun _ _ => RelL.nil) pass0 (q_acons (q_var (pv 3)) (q_acons (q_var (pv 7)) (q_acons (q_call G__law_at_2 (hr.mono (by decide)) rfl T.g__law_at_2 T.k__law_at_2 b__law_at_2 .nil (fun _ _ => RelL.nil) pass0 (q_acons (q_var (pv 3)) (q_acons (q_var (pv 4)) (q_acons (q_var (pv 8)) q_anil)))) q_anil)))) (q_acons (toE (q_callTyN call_list_of rc_list (by rfl) T.b_list (by decide +kernel) (q_xcons (toV (q_var (pv 7))) q_xnil))) q_anil)) (by rfl)) (q_cons (q_setN (i := 9) sc_law.nd rfl (Or.inl rfl) (q_callN G_mark_paper_2 (hr.mono (by decide)) rfl T.g_mark_paper_2 T.k_mark_paper_2 b_mark_paper_2 .nil (fun _ _ => RelL.nil) pass0 (q_acons (q_var (pv 6)) (q_acons (q_call G__law_pick_2 (hr.mono (by decide)) rfl T.g__law_pick_2 T.k__law_pick_2 b__law_pick_2 .nil (fun _ _ => RelL.nil) pass0 (q_acons (q_var (pv 1)) (q_acons (toE (q_lst (q_acons (q_var (pv 7)) (q_acons (q_callTy call_tuple_of rc_tuple (by rfl) T.b_tuple (by decide +kernel) (q_xcons (toV (q_var (pv 7))) q_xnil)) q_anil)))) q_anil))) (q_acons (q_var (pv 8)) q_anil))))) (q_cons (q_if (L2.PW.pt (q_or (q_tcmp op_ne rop_neX (toV (q_callB (call_reprE hr0.idle hr.units) rc_reprE (by rfl) T.b_repr (by decide +kernel) (q_xcons (q_view (pv 9)) q_xnil))) (toV (q_callB (call_reprE hr0.idle hr.units) rc_reprE (by rfl) T.b_repr (by decide +kernel) (q_xcons (toV (q_var (pv 13))) q_xnil))) (nomark _)) (q_or1 (q_tcmp op_notBl rop_notB (toV (q_lend (i := 9) (fun B => (q_call G_shows_mark (hr.mono (by decide)) rfl T.g_shows_mark T.k_shows_mark b_shows_mark .nil (fun _ _ => RelL.nil) pass0 (q_acons (q_var (pv 6)) (q_acons (q_callTy call_tuple_of rc_tuple (by rfl) T.b_tuple (by decide +kernel) (q_xcons (toV (q_var (pv 7))) q_xnil)) (q_acons (q_var (pv 8)) (q_acons (q_var (pv 9)) q_anil)))))))) (toV q_bl) (nomark _))))) (q_cons (q_ret hm q_bl) q_nil) q_nil) (q_cons (q_app (i := 9) (pe_bm PySem.F.plainAttrs_list PySem.F.slot_list_append PySem.F.type_list_append mt_append (pv 9) (pa_cons q_non pa_nil))) (q_frz (i := 9) hB (q_cons (q_setN (i := 10) sc_law.nd rfl (Or.inl rfl) (q_lst (q_acons (q_var (pv 13)) (q_acons (q_callTy call_tuple_of rc_tuple (by rfl) T.b_tuple (by decide +kernel) (q_xcons (toV (q_var (pv 13))) q_xnil)) (q_acons (q_op op_add4 rop_add (toV (q_var (pv 13))) (toV (toE (q_lst (q_acons (q_ix (toV (q_var (pv 13))) (toV (q_un un_neg run_neg (toV q_int))) (fun _ _ => rfl)) q_anil))))) (q_acons (toE (q_lst q_anil)) (q_acons q_non (q_acons (toE q_dnew) (q_acons q_str (q_acons q_int (q_acons (q_tup (q_acons (q_var (pv 13)) q_anil)) (q_acons (q_ix (toV (q_var (pv 13))) (toV q_int) (fun _ _ => rfl)) (q_acons q_bl (q_acons (q_callB (call_reprD hr0.idle hr.units) rc_reprS (by rfl) T.b_repr (by decide +kernel) (q_xcons (toV (q_var (pv 13))) q_xnil)) q_anil)))))))))))))) (q_cons (q_for PassesOwn.never rfl (q_irng1 (by rfl) T.b_range (toV q_int)) (q_gname (vs := [11]) (pg_name (i := 11) sc_law.nd rfl (Or.inl rfl)) (by decide)) (q_cons (q_set (i := 15) sc_law.nd rfl (Or.inl rfl) (q_call G__law_bent (hr.mono (by decide)) rfl T.g__law_bent T.k__law_bent b__law_bent .nil (fun _ _ => RelL.nil) pass0 (q_acons (q_var (pv 1)) (q_acons (q_var (pv 13)) q_anil)))) (q_cons (q_app (i := 10) (pe_bm PySem.F.plainAttrs_list PySem.F.slot_list_append PySem.F.type_list_append mt_append (pv 10) (pa_cons (q_ifE (L2.PW.pt (q_and (q_tcmp (op_neD hr.units) rop_ne (toV (q_var (pv 15))) (toV (toE (q_lst q_anil))) (nomark _)) (q_and1 (q_tcmp (op_eqD hr.units) rop_eq (toV (q_call G__law_draw_2 (hr.mono (by decide)) rfl T.g__law_draw_2 T.k__law_draw_2 b__law_draw_2 .nil (fun _ _ => RelL.nil) pass0 (q_acons (q_var (pv 1)) (q_acons q_int q_anil)))) (toV q_int) (nomark _))))) (q_call G__law_bent (hr.mono (by decide)) rfl T.g__law_bent T.k__law_bent b__law_bent .nil (fun _ _ => RelL.nil) pass0 (q_acons (q_var (pv 1)) (q_acons (q_var (pv 15)) q_anil))) (q_var (pv 15))) pa_nil))) q_nil))) (q_frz (i := 10) hB (q_cons (q_for PassesOwn.never rfl (q_iany (q_var (pv 10))) (q_gname (vs := [12]) (pg_name (i := 12) sc_law.nd rfl (Or.inl rfl)) (by decide)) (q_cons (q_par (i := 17) (j := 18) rfl sc_law.nd rfl rfl (by decide) rfl rfl (q_acons (q_callB (call_reprE hr0.idle hr.units) rc_reprE (by rfl) T.b_repr (by decide +kernel) (q_xcons (toV (q_var (pv 12))) q_xnil)) (q_acons (q_andV (q_isi2 (c := .lst) (c2 := .tup) (toV (q_var (pv 12))) rfl T.b_isinstance rfl T.b_list (by rfl) rfl T.b_tuple (by rfl)) (q_one (q_cmp op_eq rop_eqT (toV (q_callB (call_reprE hr0.idle hr.units) rc_reprE (by rfl) T.b_repr (by decide +kernel) (q_xcons (toV (toE (q_callTyN call_list_of rc_list (by rfl) T.b_list (by decide +kernel) (q_xcons (toV (q_var (pv 12))) q_xnil)))) q_xnil))) (toV (q_callB (call_reprE hr0.idle hr.units) rc_reprE (by rfl) T.b_repr (by decide +kernel) (q_xcons (toV (q_var (pv 13))) q_xnil))) (nomark _)))) q_anil)) (by rfl)) (q_cons (q_if (L2.PW.pt (q_or (q_tcmp op_ne rop_neX (toV (q_callB (call_reprE hr0.idle hr.units) rc_reprE (by rfl) T.b_repr (by decide +kernel) (q_xcons (toV (q_call G_shows_mark (hr.mono (by decide)) rfl T.g_shows_mark T.k_shows_mark b_shows_mark .nil (fun _ _ => RelL.nil) pass0 (q_acons (q_var (pv 6)) (q_acons (q_var (pv 7)) (q_acons (q_var (pv 8)) (q_acons (q_var (pv 12)) q_anil)))))) q_xnil))) (toV (q_callB (call_reprE hr0.idle hr.units) rc_reprE (by rfl) T.b_repr (by decide +kernel) (q_xcons (toV (q_var (pv 18))) q_xnil))) (nomark _)) (q_or1 (q_tcmp op_ne rop_neX (toV (q_callB (call_reprE hr0.idle hr.units) rc_reprE (by rfl) T.b_repr (by decide +kernel) (q_xcons (toV (q_var (pv 12))) q_xnil))) (toV (q_var (pv 17))) (nomark _))))) (q_cons (q_ret hm q_bl) q_nil) q_nil) q_nil))) (q_cons (q_if (L2.PW.pt (q_or (q_tcmp (op_neD hr.units) rop_ne (toV (q_var (pv 7))) (toV (q_var (pv 14))) (nomark _)) (q_or1 (q_tcmp op_ne rop_neX (toV (q_callB (call_reprE hr0.idle hr.units) rc_reprE (by rfl) T.b_repr (by decide +kernel) (q_xcons (toV (toE (q_callN G_mark_paper_2 (hr.mono (by decide)) rfl T.g_mark_paper_2 T.k_mark_paper_2 b_mark_paper_2 .nil (fun _ _ => RelL.nil) pass0 (q_acons (q_var (pv 6)) (q_acons (q_var (pv 7)) (q_acons (q_var (pv 8)) q_anil)))))) q_xnil))) (toV (q_callB (call_reprE hr0.idle hr.units) rc_reprE (by rfl) T.b_repr (by decide +kernel) (q_xcons (toV (q_var (pv 13))) q_xnil))) (nomark _))))) (q_cons (q_ret hm q_bl) q_nil) q_nil) q_nil))))))))))))) q_nil))))) (q_cons (q_ret hm q_bl) q_nil))
end
theorem all_mk {l : PySem.W.OpenLaw} {w : World} {K : PySem.W.Frag} {h : Heap} {mg : Str → Option Value} {fa a__law_last_3 a__law_at_2 a__law_draw_2 a__law_pick_2 a__law_begun_3 a__law_whole a__law_bent_row a__law_bent a__law_many_2 a__law_dot a__law_shares a__law_mark a__law_paper_2 a__law_signed a__law_tape a_parted a_mark_by a_House_base a_heap_of a_House_ahead_of a_House_said a_mark_paper_2 a_is_listing a_is_whole a_are_rows a_follows_row a_shows_mark a_is_base a_is_count a_is_beginning a_House___init__ a_law a_House : Addr} {tk_LEAST_BASE tk_MOST_BASE : Tok} (X : K.In h) (G : h.Ns mainGlobals mg) (hfa : mg "law" = some (.ref fa))
    {od1 an1 od2 an2 od3 an3 od4 an4 od5 an5 od6 an6 od7 an7 od8 an8 od9 an9 od10 an10 od11 an11 od12 an12 od13 an13 od14 an14 od15 an15 od16 an16 od17 an17 od18 an18 od19 an19 od20 an20 od21 an21 od22 an22 od23 an23 od24 an24 od25 an25 od26 an26 od27 an27 od28 an28 od29 an29 od30 an30 od31 an31 od32 an32 : Option Addr} {sl1 sl2 sl3 sl4 sl5 sl6 sl7 sl8 sl9 sl10 sl11 sl12 sl13 sl14 sl15 sl16 sl17 sl18 sl19 sl20 sl21 sl22 sl23 sl24 sl25 sl26 sl27 sl28 sl29 sl30 sl31 sl32 : Array (Option Value)} {oc1 kV1 dc1 pm1 cd1 ct1 oc2 kV2 dc2 pm2 cd2 ct2 oc3 kV3 dc3 pm3 cd3 ct3 oc4 kV4 dc4 pm4 cd4 ct4 oc5 kV5 dc5 pm5 cd5 ct5 oc6 kV6 dc6 pm6 cd6 ct6 oc7 kV7 dc7 pm7 cd7 ct7 oc8 kV8 dc8 pm8 cd8 ct8 oc9 kV9 dc9 pm9 cd9 ct9 oc10 kV10 dc10 pm10 cd10 ct10 oc11 kV11 dc11 pm11 cd11 ct11 oc12 kV12 dc12 pm12 cd12 ct12 oc13 kV13 dc13 pm13 cd13 ct13 oc14 kV14 dc14 pm14 cd14 ct14 oc15 kV15 dc15 pm15 cd15 ct15 oc16 kV16 dc16 pm16 cd16 ct16 oc17 kV17 dc17 pm17 cd17 ct17 oc18 kV18 dc18 pm18 cd18 ct18 oc19 kV19 dc19 pm19 cd19 ct19 oc20 kV20 dc20 pm20 cd20 ct20 oc21 kV21 dc21 pm21 cd21 ct21 oc22 kV22 dc22 pm22 cd22 ct22 oc23 kV23 dc23 pm23 cd23 ct23 oc24 kV24 dc24 pm24 cd24 ct24 oc25 kV25 dc25 pm25 cd25 ct25 oc26 kV26 dc26 pm26 cd26 ct26 oc27 kV27 dc27 pm27 cd27 ct27 oc28 kV28 dc28 pm28 cd28 ct28 oc29 kV29 dc29 pm29 cd29 ct29 oc30 kV30 dc30 pm30 cd30 ct30 oc31 kV31 dc31 pm31 cd31 ct31 oc32 kV32 dc32 pm32 cd32 ct32 : Value}
    (ac_House : PySem.W.nsIn K mainGlobals "House" = some (some (.ref a_House))) (pg_House : PySem.W.plainGet K a_House Str.empty = true) (hd_House : PySem.W.hasDictIn K a_House = true) (po_House : PySem.W.plainOver K a_House = true)
    (sa_House : PySem.W.findIn K (.ref a_House) "__setattr__" = some (some (.builtin "object.__setattr__")))
    (a1 : PySem.W.nsIn K mainGlobals "_law_last" = some (some (.ref a__law_last_3)))
    (l1 : K.lookup a__law_last_3 = some ⟨oc1, od1, .func (PySem.W.fnOf "_law_last" "_law_last" (defArgs s__law_last_3) (defBody s__law_last_3) (defScope s__law_last_3) .none kV1 dc1 pm1 an1 cd1 ct1), sl1⟩) (c1 : PySem.W.codeIn K cd1 "_law_last" = true) (k1 : PySem.W.keepIn K (.ref a__law_last_3) = true)
    (a2 : PySem.W.nsIn K mainGlobals "_law_at" = some (some (.ref a__law_at_2)))
    (l2 : K.lookup a__law_at_2 = some ⟨oc2, od2, .func (PySem.W.fnOf "_law_at" "_law_at" (defArgs s__law_at_2) (defBody s__law_at_2) (defScope s__law_at_2) .none kV2 dc2 pm2 an2 cd2 ct2), sl2⟩) (c2 : PySem.W.codeIn K cd2 "_law_at" = true) (k2 : PySem.W.keepIn K (.ref a__law_at_2) = true)
    (a3 : PySem.W.nsIn K mainGlobals "_law_draw" = some (some (.ref a__law_draw_2)))
    (l3 : K.lookup a__law_draw_2 = some ⟨oc3, od3, .func (PySem.W.fnOf "_law_draw" "_law_draw" (defArgs s__law_draw_2) (defBody s__law_draw_2) (defScope s__law_draw_2) .none kV3 dc3 pm3 an3 cd3 ct3), sl3⟩) (c3 : PySem.W.codeIn K cd3 "_law_draw" = true) (k3 : PySem.W.keepIn K (.ref a__law_draw_2) = true)
    (a4 : PySem.W.nsIn K mainGlobals "_law_pick" = some (some (.ref a__law_pick_2)))
    (l4 : K.lookup a__law_pick_2 = some ⟨oc4, od4, .func (PySem.W.fnOf "_law_pick" "_law_pick" (defArgs s__law_pick_2) (defBody s__law_pick_2) (defScope s__law_pick_2) .none kV4 dc4 pm4 an4 cd4 ct4), sl4⟩) (c4 : PySem.W.codeIn K cd4 "_law_pick" = true) (k4 : PySem.W.keepIn K (.ref a__law_pick_2) = true)
    (a5 : PySem.W.nsIn K mainGlobals "_law_begun" = some (some (.ref a__law_begun_3)))
    (l5 : K.lookup a__law_begun_3 = some ⟨oc5, od5, .func (PySem.W.fnOf "_law_begun" "_law_begun" (defArgs s__law_begun_3) (defBody s__law_begun_3) (defScope s__law_begun_3) .none kV5 dc5 pm5 an5 cd5 ct5), sl5⟩) (c5 : PySem.W.codeIn K cd5 "_law_begun" = true) (k5 : PySem.W.keepIn K (.ref a__law_begun_3) = true)
    (a6 : PySem.W.nsIn K mainGlobals "_law_whole" = some (some (.ref a__law_whole)))
    (l6 : K.lookup a__law_whole = some ⟨oc6, od6, .func (PySem.W.fnOf "_law_whole" "_law_whole" (defArgs s__law_whole) (defBody s__law_whole) (defScope s__law_whole) .none kV6 dc6 pm6 an6 cd6 ct6), sl6⟩) (c6 : PySem.W.codeIn K cd6 "_law_whole" = true) (k6 : PySem.W.keepIn K (.ref a__law_whole) = true)
    (a7 : PySem.W.nsIn K mainGlobals "_law_bent_row" = some (some (.ref a__law_bent_row)))
    (l7 : K.lookup a__law_bent_row = some ⟨oc7, od7, .func (PySem.W.fnOf "_law_bent_row" "_law_bent_row" (defArgs s__law_bent_row) (defBody s__law_bent_row) (defScope s__law_bent_row) .none kV7 dc7 pm7 an7 cd7 ct7), sl7⟩) (c7 : PySem.W.codeIn K cd7 "_law_bent_row" = true) (k7 : PySem.W.keepIn K (.ref a__law_bent_row) = true)
    (a8 : PySem.W.nsIn K mainGlobals "_law_bent" = some (some (.ref a__law_bent)))
    (l8 : K.lookup a__law_bent = some ⟨oc8, od8, .func (PySem.W.fnOf "_law_bent" "_law_bent" (defArgs s__law_bent) (defBody s__law_bent) (defScope s__law_bent) .none kV8 dc8 pm8 an8 cd8 ct8), sl8⟩) (c8 : PySem.W.codeIn K cd8 "_law_bent" = true) (k8 : PySem.W.keepIn K (.ref a__law_bent) = true)
    (a9 : PySem.W.nsIn K mainGlobals "_law_many" = some (some (.ref a__law_many_2)))
    (l9 : K.lookup a__law_many_2 = some ⟨oc9, od9, .func (PySem.W.fnOf "_law_many" "_law_many" (defArgs s__law_many_2) (defBody s__law_many_2) (defScope s__law_many_2) .none kV9 dc9 pm9 an9 cd9 ct9), sl9⟩) (c9 : PySem.W.codeIn K cd9 "_law_many" = true) (k9 : PySem.W.keepIn K (.ref a__law_many_2) = true)
    (a10 : PySem.W.nsIn K mainGlobals "_law_dot" = some (some (.ref a__law_dot)))
    (l10 : K.lookup a__law_dot = some ⟨oc10, od10, .func (PySem.W.fnOf "_law_dot" "_law_dot" (defArgs s__law_dot) (defBody s__law_dot) (defScope s__law_dot) .none kV10 dc10 pm10 an10 cd10 ct10), sl10⟩) (c10 : PySem.W.codeIn K cd10 "_law_dot" = true) (k10 : PySem.W.keepIn K (.ref a__law_dot) = true)
    (a11 : PySem.W.nsIn K mainGlobals "_law_shares" = some (some (.ref a__law_shares)))
    (l11 : K.lookup a__law_shares = some ⟨oc11, od11, .func (PySem.W.fnOf "_law_shares" "_law_shares" (defArgs s__law_shares) (defBody s__law_shares) (defScope s__law_shares) .none kV11 dc11 pm11 an11 cd11 ct11), sl11⟩) (c11 : PySem.W.codeIn K cd11 "_law_shares" = true) (k11 : PySem.W.keepIn K (.ref a__law_shares) = true)
    (a12 : PySem.W.nsIn K mainGlobals "_law_mark" = some (some (.ref a__law_mark)))
    (l12 : K.lookup a__law_mark = some ⟨oc12, od12, .func (PySem.W.fnOf "_law_mark" "_law_mark" (defArgs s__law_mark) (defBody s__law_mark) (defScope s__law_mark) .none kV12 dc12 pm12 an12 cd12 ct12), sl12⟩) (c12 : PySem.W.codeIn K cd12 "_law_mark" = true) (k12 : PySem.W.keepIn K (.ref a__law_mark) = true)
    (a13 : PySem.W.nsIn K mainGlobals "_law_paper" = some (some (.ref a__law_paper_2)))
    (l13 : K.lookup a__law_paper_2 = some ⟨oc13, od13, .func (PySem.W.fnOf "_law_paper" "_law_paper" (defArgs s__law_paper_2) (defBody s__law_paper_2) (defScope s__law_paper_2) .none kV13 dc13 pm13 an13 cd13 ct13), sl13⟩) (c13 : PySem.W.codeIn K cd13 "_law_paper" = true) (k13 : PySem.W.keepIn K (.ref a__law_paper_2) = true)
    (a14 : PySem.W.nsIn K mainGlobals "_law_signed" = some (some (.ref a__law_signed)))
    (l14 : K.lookup a__law_signed = some ⟨oc14, od14, .func (PySem.W.fnOf "_law_signed" "_law_signed" (defArgs s__law_signed) (defBody s__law_signed) (defScope s__law_signed) .none kV14 dc14 pm14 an14 cd14 ct14), sl14⟩) (c14 : PySem.W.codeIn K cd14 "_law_signed" = true) (k14 : PySem.W.keepIn K (.ref a__law_signed) = true)
    (a15 : PySem.W.nsIn K mainGlobals "_law_tape" = some (some (.ref a__law_tape)))
    (l15 : K.lookup a__law_tape = some ⟨oc15, od15, .func (PySem.W.fnOf "_law_tape" "_law_tape" (defArgs s__law_tape) (defBody s__law_tape) (defScope s__law_tape) .none kV15 dc15 pm15 an15 cd15 ct15), sl15⟩) (c15 : PySem.W.codeIn K cd15 "_law_tape" = true) (k15 : PySem.W.keepIn K (.ref a__law_tape) = true)
    (a16 : PySem.W.nsIn K mainGlobals "parted" = some (some (.ref a_parted)))
    (l16 : K.lookup a_parted = some ⟨oc16, od16, .func (PySem.W.fnOf "parted" "parted" (defArgs s_parted) (defBody s_parted) (defScope s_parted) .none kV16 dc16 pm16 an16 cd16 ct16), sl16⟩) (c16 : PySem.W.codeIn K cd16 "parted" = true) (k16 : PySem.W.keepIn K (.ref a_parted) = true)
    (a17 : PySem.W.nsIn K mainGlobals "mark_by" = some (some (.ref a_mark_by)))
    (l17 : K.lookup a_mark_by = some ⟨oc17, od17, .func (PySem.W.fnOf "mark_by" "mark_by" (defArgs s_mark_by) (defBody s_mark_by) (defScope s_mark_by) .none kV17 dc17 pm17 an17 cd17 ct17), sl17⟩) (c17 : PySem.W.codeIn K cd17 "mark_by" = true) (k17 : PySem.W.keepIn K (.ref a_mark_by) = true)
    (a18 : PySem.W.findIn K (.ref a_House) "base" = some (some (.ref a_House_base))) (i18 : PySem.W.isFn K (.ref a_House_base) = true)
    (l18 : K.lookup a_House_base = some ⟨oc18, od18, .func (PySem.W.fnOf "base" "House.base" (defArgs s_House_base) (defBody s_House_base) (defScope s_House_base) .none kV18 dc18 pm18 an18 cd18 ct18), sl18⟩) (c18 : PySem.W.codeIn K cd18 "House.base" = true) (k18 : PySem.W.keepIn K (.ref a_House_base) = true)
    (a19 : PySem.W.nsIn K mainGlobals "heap_of" = some (some (.ref a_heap_of)))
    (l19 : K.lookup a_heap_of = some ⟨oc19, od19, .func (PySem.W.fnOf "heap_of" "heap_of" (defArgs s_heap_of) (defBody s_heap_of) (defScope s_heap_of) .none kV19 dc19 pm19 an19 cd19 ct19), sl19⟩) (c19 : PySem.W.codeIn K cd19 "heap_of" = true) (k19 : PySem.W.keepIn K (.ref a_heap_of) = true)
    (a20 : PySem.W.findIn K (.ref a_House) "ahead_of" = some (some (.ref a_House_ahead_of))) (i20 : PySem.W.isFn K (.ref a_House_ahead_of) = true)
    (l20 : K.lookup a_House_ahead_of = some ⟨oc20, od20, .func (PySem.W.fnOf "ahead_of" "House.ahead_of" (defArgs s_House_ahead_of) (defBody s_House_ahead_of) (defScope s_House_ahead_of) .none kV20 dc20 pm20 an20 cd20 ct20), sl20⟩) (c20 : PySem.W.codeIn K cd20 "House.ahead_of" = true) (k20 : PySem.W.keepIn K (.ref a_House_ahead_of) = true)
    (a21 : PySem.W.findIn K (.ref a_House) "said" = some (some (.ref a_House_said))) (i21 : PySem.W.isFn K (.ref a_House_said) = true)
    (l21 : K.lookup a_House_said = some ⟨oc21, od21, .func (PySem.W.fnOf "said" "House.said" (defArgs s_House_said) (defBody s_House_said) (defScope s_House_said) .none kV21 dc21 pm21 an21 cd21 ct21), sl21⟩) (c21 : PySem.W.codeIn K cd21 "House.said" = true) (k21 : PySem.W.keepIn K (.ref a_House_said) = true)
    (a22 : PySem.W.nsIn K mainGlobals "mark_paper" = some (some (.ref a_mark_paper_2)))
    (l22 : K.lookup a_mark_paper_2 = some ⟨oc22, od22, .func (PySem.W.fnOf "mark_paper" "mark_paper" (defArgs s_mark_paper_2) (defBody s_mark_paper_2) (defScope s_mark_paper_2) .none kV22 dc22 pm22 an22 cd22 ct22), sl22⟩) (c22 : PySem.W.codeIn K cd22 "mark_paper" = true) (k22 : PySem.W.keepIn K (.ref a_mark_paper_2) = true)
    (a23 : PySem.W.nsIn K mainGlobals "is_listing" = some (some (.ref a_is_listing)))
    (l23 : K.lookup a_is_listing = some ⟨oc23, od23, .func (PySem.W.fnOf "is_listing" "is_listing" (defArgs s_is_listing) (defBody s_is_listing) (defScope s_is_listing) .none kV23 dc23 pm23 an23 cd23 ct23), sl23⟩) (c23 : PySem.W.codeIn K cd23 "is_listing" = true) (k23 : PySem.W.keepIn K (.ref a_is_listing) = true)
    (a24 : PySem.W.nsIn K mainGlobals "is_whole" = some (some (.ref a_is_whole)))
    (l24 : K.lookup a_is_whole = some ⟨oc24, od24, .func (PySem.W.fnOf "is_whole" "is_whole" (defArgs s_is_whole) (defBody s_is_whole) (defScope s_is_whole) .none kV24 dc24 pm24 an24 cd24 ct24), sl24⟩) (c24 : PySem.W.codeIn K cd24 "is_whole" = true) (k24 : PySem.W.keepIn K (.ref a_is_whole) = true)
    (a25 : PySem.W.nsIn K mainGlobals "are_rows" = some (some (.ref a_are_rows)))
    (l25 : K.lookup a_are_rows = some ⟨oc25, od25, .func (PySem.W.fnOf "are_rows" "are_rows" (defArgs s_are_rows) (defBody s_are_rows) (defScope s_are_rows) .none kV25 dc25 pm25 an25 cd25 ct25), sl25⟩) (c25 : PySem.W.codeIn K cd25 "are_rows" = true) (k25 : PySem.W.keepIn K (.ref a_are_rows) = true)
    (a26 : PySem.W.nsIn K mainGlobals "follows_row" = some (some (.ref a_follows_row)))
    (l26 : K.lookup a_follows_row = some ⟨oc26, od26, .func (PySem.W.fnOf "follows_row" "follows_row" (defArgs s_follows_row) (defBody s_follows_row) (defScope s_follows_row) .none kV26 dc26 pm26 an26 cd26 ct26), sl26⟩) (c26 : PySem.W.codeIn K cd26 "follows_row" = true) (k26 : PySem.W.keepIn K (.ref a_follows_row) = true)
    (a27 : PySem.W.nsIn K mainGlobals "shows_mark" = some (some (.ref a_shows_mark)))
    (l27 : K.lookup a_shows_mark = some ⟨oc27, od27, .func (PySem.W.fnOf "shows_mark" "shows_mark" (defArgs s_shows_mark) (defBody s_shows_mark) (defScope s_shows_mark) .none kV27 dc27 pm27 an27 cd27 ct27), sl27⟩) (c27 : PySem.W.codeIn K cd27 "shows_mark" = true) (k27 : PySem.W.keepIn K (.ref a_shows_mark) = true)
    (a28 : PySem.W.nsIn K mainGlobals "is_base" = some (some (.ref a_is_base)))
    (l28 : K.lookup a_is_base = some ⟨oc28, od28, .func (PySem.W.fnOf "is_base" "is_base" (defArgs s_is_base) (defBody s_is_base) (defScope s_is_base) .none kV28 dc28 pm28 an28 cd28 ct28), sl28⟩) (c28 : PySem.W.codeIn K cd28 "is_base" = true) (k28 : PySem.W.keepIn K (.ref a_is_base) = true)
    (a29 : PySem.W.nsIn K mainGlobals "is_count" = some (some (.ref a_is_count)))
    (l29 : K.lookup a_is_count = some ⟨oc29, od29, .func (PySem.W.fnOf "is_count" "is_count" (defArgs s_is_count) (defBody s_is_count) (defScope s_is_count) .none kV29 dc29 pm29 an29 cd29 ct29), sl29⟩) (c29 : PySem.W.codeIn K cd29 "is_count" = true) (k29 : PySem.W.keepIn K (.ref a_is_count) = true)
    (a30 : PySem.W.nsIn K mainGlobals "is_beginning" = some (some (.ref a_is_beginning)))
    (l30 : K.lookup a_is_beginning = some ⟨oc30, od30, .func (PySem.W.fnOf "is_beginning" "is_beginning" (defArgs s_is_beginning) (defBody s_is_beginning) (defScope s_is_beginning) .none kV30 dc30 pm30 an30 cd30 ct30), sl30⟩) (c30 : PySem.W.codeIn K cd30 "is_beginning" = true) (k30 : PySem.W.keepIn K (.ref a_is_beginning) = true)
    (a31 : PySem.W.findIn K (.ref a_House) "__init__" = some (some (.ref a_House___init__))) (i31 : PySem.W.isFn K (.ref a_House___init__) = true)
    (l31 : K.lookup a_House___init__ = some ⟨oc31, od31, .func (PySem.W.fnOf "__init__" "House.__init__" (defArgs s_House___init__) (defBody s_House___init__) (defScope s_House___init__) .none kV31 dc31 pm31 an31 cd31 ct31), sl31⟩) (c31 : PySem.W.codeIn K cd31 "House.__init__" = true) (k31 : PySem.W.keepIn K (.ref a_House___init__) = true)
    (a32 : PySem.W.nsIn K mainGlobals "law" = some (some (.ref a_law)))
    (l32 : K.lookup a_law = some ⟨oc32, od32, .func (PySem.W.fnOf "law" "law" (defArgs s_law) (defBody s_law) (defScope s_law) .none kV32 dc32 pm32 an32 cd32 ct32), sl32⟩) (c32 : PySem.W.codeIn K cd32 "law" = true) (k32 : PySem.W.keepIn K (.ref a_law) = true)
    (n_House_kept_base : PySem.W.findIn K (.ref a_House) "kept_base" = some none)
    (n_House_kept_beginning : PySem.W.findIn K (.ref a_House) "kept_beginning" = some none)
    (n_House_sums : PySem.W.findIn K (.ref a_House) "sums" = some none)
    (mk_House : PySem.W.makesIn K a_House = true) (kc_House : PySem.W.keepIn K (.ref a_House) = true)
    (q_LEAST_BASE : PySem.W.nsIn K mainGlobals "LEAST_BASE" = some (some (Value.int 2 tk_LEAST_BASE)))
    (q_MOST_BASE : PySem.W.nsIn K mainGlobals "MOST_BASE" = some (some (Value.int 30 tk_MOST_BASE)))
    (z_abs : PySem.W.nsIn K mainGlobals "abs" = some none)
    (z_all : PySem.W.nsIn K mainGlobals "all" = some none)
    (z_bool : PySem.W.nsIn K mainGlobals "bool" = some none)
    (z_divmod : PySem.W.nsIn K mainGlobals "divmod" = some none)
    (z_int : PySem.W.nsIn K mainGlobals "int" = some none)
    (z_isinstance : PySem.W.nsIn K mainGlobals "isinstance" = some none)
    (z_len : PySem.W.nsIn K mainGlobals "len" = some none)
    (z_list : PySem.W.nsIn K mainGlobals "list" = some none)
    (z_max : PySem.W.nsIn K mainGlobals "max" = some none)
    (z_min : PySem.W.nsIn K mainGlobals "min" = some none)
    (z_range : PySem.W.nsIn K mainGlobals "range" = some none)
    (z_repr : PySem.W.nsIn K mainGlobals "repr" = some none)
    (z_sum : PySem.W.nsIn K mainGlobals "sum" = some none)
    (z_tuple : PySem.W.nsIn K mainGlobals "tuple" = some none)
    (z_zip : PySem.W.nsIn K mainGlobals "zip" = some none)
    : ∃ fd : FuncData, (∀ (s : Shared) (v : Value), BindsTo s fd ⟨[v], []⟩ [("_law_script", v)]) ∧ ∀ base : Heap, K.In base → base.Ns mainGlobals mg → FnOkG l.prog w K mg base CX0 6 fa fd ["_law_script"] (spLaw K) := by
  have e := hfa.symm.trans (PySem.W.mg_of X G a32)
  cases e
  have T : Tx K mg a__law_last_3 a__law_at_2 a__law_draw_2 a__law_pick_2 a__law_begun_3 a__law_whole a__law_bent_row a__law_bent a__law_many_2 a__law_dot a__law_shares a__law_mark a__law_paper_2 a__law_signed a__law_tape a_parted a_mark_by a_House_base a_heap_of a_House_ahead_of a_House_said a_mark_paper_2 a_is_listing a_is_whole a_are_rows a_follows_row a_shows_mark a_is_base a_is_count a_is_beginning a_House___init__ fa a_House tk_LEAST_BASE tk_MOST_BASE := ⟨PySem.W.mg_none_of X G z_abs, PySem.W.mg_none_of X G z_all, PySem.W.mg_none_of X G z_bool, PySem.W.mg_none_of X G z_divmod, PySem.W.mg_none_of X G z_int, PySem.W.mg_none_of X G z_isinstance, PySem.W.mg_none_of X G z_len, PySem.W.mg_none_of X G z_list, PySem.W.mg_none_of X G z_max, PySem.W.mg_none_of X G z_min, PySem.W.mg_none_of X G z_range, PySem.W.mg_none_of X G z_repr, PySem.W.mg_none_of X G z_sum, PySem.W.mg_none_of X G z_tuple, PySem.W.mg_none_of X G z_zip, PySem.W.mg_of X G q_LEAST_BASE, PySem.W.mg_of X G q_MOST_BASE, PySem.W.mg_of X G a1, k1, PySem.W.mg_of X G a2, k2, PySem.W.mg_of X G a3, k3, PySem.W.mg_of X G a4, k4, PySem.W.mg_of X G a5, k5, PySem.W.mg_of X G a6, k6, PySem.W.mg_of X G a7, k7, PySem.W.mg_of X G a8, k8, PySem.W.mg_of X G a9, k9, PySem.W.mg_of X G a10, k10, PySem.W.mg_of X G a11, k11, PySem.W.mg_of X G a12, k12, PySem.W.mg_of X G a13, k13, PySem.W.mg_of X G a14, k14, PySem.W.mg_of X G a15, k15, PySem.W.mg_of X G a16, k16, PySem.W.mg_of X G a17, k17, PySem.W.mg_of X G a19, k19, PySem.W.mg_of X G a22, k22, PySem.W.mg_of X G a23, k23, PySem.W.mg_of X G a24, k24, PySem.W.mg_of X G a25, k25, PySem.W.mg_of X G a26, k26, PySem.W.mg_of X G a27, k27, PySem.W.mg_of X G a28, k28, PySem.W.mg_of X G a29, k29, PySem.W.mg_of X G a30, k30, PySem.W.mg_of X G a32, k32, PySem.W.mg_of X G ac_House, ⟨pg_House, hd_House, po_House, sa_House⟩, n_House_kept_base, n_House_kept_beginning, n_House_sums, ⟨a18, i18, k18⟩, ⟨a20, i20, k20⟩, ⟨a21, i21, k21⟩, ⟨mk_House, a31, i31, kc_House⟩⟩
  have F1 := fun_mk (st := s__law_last_3) l1 c1 k1
  have b1 := F1.binds (ps := ["_law_base", "_law_begun_here", "_law_number"]) fun _ _ _ _ _ _ us hl => match us, hl with | [_, _, _], _ => rfl
  have F2 := fun_mk (st := s__law_at_2) l2 c2 k2
  have b2 := F2.binds (ps := ["_law_base", "_law_begun_here", "_law_spot"]) fun _ _ _ _ _ _ us hl => match us, hl with | [_, _, _], _ => rfl
  have F3 := fun_mk (st := s__law_draw_2) l3 c3 k3
  have b3 := F3.binds (ps := ["_law_tape_here", "_law_many_here"]) fun _ _ _ _ _ _ us hl => match us, hl with | [_, _], _ => rfl
  have F4 := fun_mk (st := s__law_pick_2) l4 c4 k4
  have b4 := F4.binds (ps := ["_law_tape_here", "_law_some"]) fun _ _ _ _ _ _ us hl => match us, hl with | [_, _], _ => rfl
  have F5 := fun_mk (st := s__law_begun_3) l5 c5 k5
  have b5 := F5.binds (ps := ["_law_tape_here", "_law_base", "_law_most"]) fun _ _ _ _ _ _ us hl => match us, hl with | [_, _, _], _ => rfl
  have F6 := fun_mk (st := s__law_whole) l6 c6 k6
  have b6 := F6.binds (ps := ["_law_thing"]) fun _ _ _ _ _ _ us hl => match us, hl with | [_], _ => rfl
  have F7 := fun_mk (st := s__law_bent_row) l7 c7 k7
  have b7 := F7.binds (ps := ["_law_tape_here", "_law_row"]) fun _ _ _ _ _ _ us hl => match us, hl with | [_, _], _ => rfl
  have F8 := fun_mk (st := s__law_bent) l8 c8 k8
  have b8 := F8.binds (ps := ["_law_tape_here", "_law_paper_here"]) fun _ _ _ _ _ _ us hl => match us, hl with | [_, _], _ => rfl
  have F9 := fun_mk (st := s__law_many_2) l9 c9 k9
  have b9 := F9.binds (ps := ["_law_tape_here", "_law_figures"]) fun _ _ _ _ _ _ us hl => match us, hl with | [_, _], _ => rfl
  have F10 := fun_mk (st := s__law_dot) l10 c10 k10
  have b10 := F10.binds (ps := ["_law_one", "_law_other"]) fun _ _ _ _ _ _ us hl => match us, hl with | [_, _], _ => rfl
  have F11 := fun_mk (st := s__law_shares) l11 c11 k11
  have b11 := F11.binds (ps := ["_law_base", "_law_number"]) fun _ _ _ _ _ _ us hl => match us, hl with | [_, _], _ => rfl
  have F12 := fun_mk (st := s__law_mark) l12 c12 k12
  have b12 := F12.binds (ps := ["_law_base", "_law_marks", "_law_number"]) fun _ _ _ _ _ _ us hl => match us, hl with | [_, _, _], _ => rfl
  have F13 := fun_mk (st := s__law_paper_2) l13 c13 k13
  have b13 := F13.binds (ps := ["_law_base", "_law_marks", "_law_number"]) fun _ _ _ _ _ _ us hl => match us, hl with | [_, _, _], _ => rfl
  have F14 := fun_mk (st := s__law_signed) l14 c14 k14
  have b14 := F14.binds (ps := ["_law_tape_here", "_law_figures"]) fun _ _ _ _ _ _ us hl => match us, hl with | [_, _], _ => rfl
  have F15 := fun_mk (st := s__law_tape) l15 c15 k15
  have b15 := F15.binds (ps := ["_law_script"]) fun _ _ _ _ _ _ us hl => match us, hl with | [_], _ => rfl
  have F16 := fun_mk (st := s_parted) l16 c16 k16
  have b16 := F16.binds (ps := ["number", "base"]) fun _ _ _ _ _ _ us hl => match us, hl with | [_, _], _ => rfl
  have F17 := fun_mk (st := s_mark_by) l17 c17 k17
  have b17 := F17.binds (ps := ["base", "marks", "number"]) fun _ _ _ _ _ _ us hl => match us, hl with | [_, _, _], _ => rfl
  have F18 := fun_mk (st := s_House_base) l18 c18 k18
  have b18 := F18.binds (ps := ["self"]) fun _ _ _ _ _ _ us hl => match us, hl with | [_], _ => rfl
  have F19 := fun_mk (st := s_heap_of) l19 c19 k19
  have b19 := F19.binds (ps := ["number", "base"]) fun _ _ _ _ _ _ us hl => match us, hl with | [_, _], _ => rfl
  have F20 := fun_mk (st := s_House_ahead_of) l20 c20 k20
  have b20 := F20.binds (ps := ["self", "power", "exponent", "sign"]) fun _ _ _ _ _ _ us hl => match us, hl with | [_, _, _, _], _ => rfl
  have F21 := fun_mk (st := s_House_said) l21 c21 k21
  have b21 := F21.binds (ps := ["self", "place"]) fun _ _ _ _ _ _ us hl => match us, hl with | [_, _], _ => rfl
  have F22 := fun_mk (st := s_mark_paper_2) l22 c22 k22
  have b22 := F22.binds (ps := ["house", "marks", "place"]) fun _ _ _ _ _ _ us hl => match us, hl with | [_, _, _], _ => rfl
  have F23 := fun_mk (st := s_is_listing) l23 c23 k23
  have b23 := F23.binds (ps := ["thing"]) fun _ _ _ _ _ _ us hl => match us, hl with | [_], _ => rfl
  have F24 := fun_mk (st := s_is_whole) l24 c24 k24
  have b24 := F24.binds (ps := ["thing"]) fun _ _ _ _ _ _ us hl => match us, hl with | [_], _ => rfl
  have F25 := fun_mk (st := s_are_rows) l25 c25 k25
  have b25 := F25.binds (ps := ["thing"]) fun _ _ _ _ _ _ us hl => match us, hl with | [_], _ => rfl
  have F26 := fun_mk (st := s_follows_row) l26 c26 k26
  have b26 := F26.binds (ps := ["base", "row", "head"]) fun _ _ _ _ _ _ us hl => match us, hl with | [_, _, _], _ => rfl
  have F27 := fun_mk (st := s_shows_mark) l27 c27 k27
  have b27 := F27.binds (ps := ["house", "marks", "place", "paper"]) fun _ _ _ _ _ _ us hl => match us, hl with | [_, _, _, _], _ => rfl
  have F28 := fun_mk (st := s_is_base) l28 c28 k28
  have b28 := F28.binds (ps := ["thing"]) fun _ _ _ _ _ _ us hl => match us, hl with | [_], _ => rfl
  have F29 := fun_mk (st := s_is_count) l29 c29 k29
  have b29 := F29.binds (ps := ["thing"]) fun _ _ _ _ _ _ us hl => match us, hl with | [_], _ => rfl
  have F30 := fun_mk (st := s_is_beginning) l30 c30 k30
  have b30 := F30.binds (ps := ["base", "thing"]) fun _ _ _ _ _ _ us hl => match us, hl with | [_, _], _ => rfl
  have F31 := fun_mk (st := s_House___init__) l31 c31 k31
  have b31 := F31.binds (ps := ["self", "k", "beginning"]) fun _ _ _ _ _ _ us hl => match us, hl with | [_, _, _], _ => rfl
  have F32 := fun_mk (st := s_law) l32 c32 k32
  refine ⟨PySem.W.fnOf "law" "law" (defArgs s_law) (defBody s_law) (defScope s_law) .none kV32 dc32 pm32 an32 cd32 ct32, fun s v => .of_eq rfl, fun base _ _ => ?_⟩
  have G1 := ok__law_last_3 (P := l.prog) (w := w) (base := base) F1 T
  have G2 := ok__law_at_2 (P := l.prog) (w := w) (base := base) F2 T G1 b1
  have G3 := ok__law_draw_2 (P := l.prog) (w := w) (base := base) F3 T
  have G4 := ok__law_pick_2 (P := l.prog) (w := w) (base := base) F4 T G3 b3
  have G5 := ok__law_begun_3 (P := l.prog) (w := w) (base := base) F5 T G3 b3 G4 b4
  have G6 := ok__law_whole (P := l.prog) (w := w) (base := base) F6 T
  have G7 := ok__law_bent_row (P := l.prog) (w := w) (base := base) F7 T G4 b4 G6 b6
  have G8 := ok__law_bent (P := l.prog) (w := w) (base := base) F8 T G7 b7 G3 b3
  have G9 := ok__law_many_2 (P := l.prog) (w := w) (base := base) F9 T G3 b3
  have G10 := ok__law_dot (P := l.prog) (w := w) (base := base) F10 T
  have G11 := ok__law_shares (P := l.prog) (w := w) (base := base) F11 T
  have G12 := ok__law_mark (P := l.prog) (w := w) (base := base) F12 T G10 b10 G11 b11
  have G13 := ok__law_paper_2 (P := l.prog) (w := w) (base := base) F13 T G12 b12
  have G14 := ok__law_signed (P := l.prog) (w := w) (base := base) F14 T G3 b3 G9 b9 G4 b4
  have G15 := ok__law_tape (P := l.prog) (w := w) (base := base) F15 T
  have G16 := ok_parted (P := l.prog) (w := w) (base := base) F16 T
  have G17 := ok_mark_by (P := l.prog) (w := w) (base := base) F17 T G16 b16
  have G18 := ok_House_base (P := l.prog) (w := w) (base := base) F18 T
  have G19 := ok_heap_of (P := l.prog) (w := w) (base := base) F19 T
  have G20 := ok_House_ahead_of (P := l.prog) (w := w) (base := base) F20 T
  have G21 := ok_House_said (P := l.prog) (w := w) (base := base) F21 T G19 b19 G20 b20
  have G22 := ok_mark_paper_2 (P := l.prog) (w := w) (base := base) F22 T G17 b17 G18 b18 G21 b21
  have G23 := ok_is_listing (P := l.prog) (w := w) (base := base) F23 T
  have G24 := ok_is_whole (P := l.prog) (w := w) (base := base) F24 T
  have G25 := ok_are_rows (P := l.prog) (w := w) (base := base) F25 T G23 b23 G24 b24
  have G26 := ok_follows_row (P := l.prog) (w := w) (base := base) F26 T
  have G27 := ok_shows_mark (P := l.prog) (w := w) (base := base) F27 T G25 b25 G26 b26 G18 b18 G21 b21
  have G28 := ok_is_base (P := l.prog) (w := w) (base := base) F28 T G24 b24
  have G29 := ok_is_count (P := l.prog) (w := w) (base := base) F29 T G24 b24
  have G30 := ok_is_beginning (P := l.prog) (w := w) (base := base) F30 T G29 b29 G23 b23
  have G31 := ok_House___init__ (P := l.prog) (w := w) (base := base) F31 T G28 b28 G30 b30
  have G32 := ok_law (P := l.prog) (w := w) (base := base) F32 T G2 b2 G5 b5 G8 b8 G3 b3 G9 b9 G13 b13 G4 b4 G14 b14 G15 b15 G22 b22 G27 b27 G31 b31
  exact G32
theorem walk {l : PySem.W.OpenLaw} {q : Program} {loose : List Str} {XP : (Str → Option Value) → Heap → Prop} {YP : World → Heap → Prop} {d : DefRec} {K : Params → PySem.W.Frag} (hn : l.most = some 63) (hdf : d.params.defaults = [])
    (hY : ∀ (w : World) (h : Heap), YP w h → (K w.params).In h)
    (F : ∀ (w : World) (mg : Str → Option Value) (fa : Addr) (h : Heap), (K w.params).In h → h.Ns mainGlobals mg → mg d.name = some (.ref fa) →
      ∃ fd : FuncData, (∀ (s : Shared) (u : Value), BindsTo s fd ⟨[u], []⟩ [("_law_script", u)]) ∧ ∀ base : Heap, (K w.params).In base → base.Ns mainGlobals mg → FnOkG l.prog w (K w.params) mg base CX0 6 fa fd ["_law_script"] (spLaw (K w.params))) :
    PySem.W.WalkO q loose XP YP l.row.toRowW d [] (fun f vs => PySem.call f vs) :=
  walk_ofG (n := 63) (k := 6) (x := "_law_script") (sp := spLaw) hn (by decide) hdf ⟨⟨rfl, by decide, by decide⟩, rfl⟩ hY F (fun _ H a ns hl hO hS => ⟨a, ns, rfl, hO, hS, hl, fun _ => rfl⟩)
end L_k38
open PySem PySem.W PyProof.Rows
set_option maxRecDepth 100000 in
set_option maxHeartbeats 0 in
theorem PySem.Challenge.cw_askback_k38_papers_of_marks_holds : PySem.Challenge.rw_askback_k38_papers_of_marks.Holds := by
  w_on; o_law; k_head; (case hw => w_witness2)
  k_fill
  refine L_k38.walk (l := PySem.Challenge.rw_askback_k38_papers_of_marks) rfl rfl (fun w h Y => PySem.W.kIn_of Y) ?F
  case F =>
    intro w mg fa h KX G hmg
    refine' L_k38.all_mk KX G hmg ?ac_House ?pg_House ?hd_House ?po_House ?sa_House ?a1 ?l1 ?c1 ?k1 ?a2 ?l2 ?c2 ?k2 ?a3 ?l3 ?c3 ?k3 ?a4 ?l4 ?c4 ?k4 ?a5 ?l5 ?c5 ?k5 ?a6 ?l6 ?c6 ?k6 ?a7 ?l7 ?c7 ?k7 ?a8 ?l8 ?c8 ?k8 ?a9 ?l9 ?c9 ?k9 ?a10 ?l10 ?c10 ?k10 ?a11 ?l11 ?c11 ?k11 ?a12 ?l12 ?c12 ?k12 ?a13 ?l13 ?c13 ?k13 ?a14 ?l14 ?c14 ?k14 ?a15 ?l15 ?c15 ?k15 ?a16 ?l16 ?c16 ?k16 ?a17 ?l17 ?c17 ?k17 ?a18 ?i18 ?l18 ?c18 ?k18 ?a19 ?l19 ?c19 ?k19 ?a20 ?i20 ?l20 ?c20 ?k20 ?a21 ?i21 ?l21 ?c21 ?k21 ?a22 ?l22 ?c22 ?k22 ?a23 ?l23 ?c23 ?k23 ?a24 ?l24 ?c24 ?k24 ?a25 ?l25 ?c25 ?k25 ?a26 ?l26 ?c26 ?k26 ?a27 ?l27 ?c27 ?k27 ?a28 ?l28 ?c28 ?k28 ?a29 ?l29 ?c29 ?k29 ?a30 ?l30 ?c30 ?k30 ?a31 ?i31 ?l31 ?c31 ?k31 ?a32 ?l32 ?c32 ?k32 ?n_House_kept_base ?n_House_kept_beginning ?n_House_sums ?mk_House ?kc_House ?q_LEAST_BASE ?q_MOST_BASE ?z_abs ?z_all ?z_bool ?z_divmod ?z_int ?z_isinstance ?z_len ?z_list ?z_max ?z_min ?z_range ?z_repr ?z_sum ?z_tuple ?z_zip
    (case ac_House => k_is)
    (case pg_House => k_is)
    (case hd_House => k_is)
    (case po_House => k_is)
    (case sa_House => k_is)
    (case a1 => k_is)
    (case l1 => k_is)
    (case c1 => k_is)
    (case k1 => k_is)
    (case a2 => k_is)
    (case l2 => k_is)
    (case c2 => k_is)
    (case k2 => k_is)
    (case a3 => k_is)
    (case l3 => k_is)
    (case c3 => k_is)
    (case k3 => k_is)
    (case a4 => k_is)
    (case l4 => k_is)
    (case c4 => k_is)
    (case k4 => k_is)
    (case a5 => k_is)
    (case l5 => k_is)
    (case c5 => k_is)
    (case k5 => k_is)
    (case a6 => k_is)
    (case l6 => k_is)
    (case c6 => k_is)
    (case k6 => k_is)
    (case a7 => k_is)
    (case l7 => k_is)
    (case c7 => k_is)
    (case k7 => k_is)
    (case a8 => k_is)
    (case l8 => k_is)
    (case c8 => k_is)
    (case k8 => k_is)
    (case a9 => k_is)
    (case l9 => k_is)
    (case c9 => k_is)
    (case k9 => k_is)
    (case a10 => k_is)
    (case l10 => k_is)
    (case c10 => k_is)
    (case k10 => k_is)
    (case a11 => k_is)
    (case l11 => k_is)
    (case c11 => k_is)
    (case k11 => k_is)
    (case a12 => k_is)
    (case l12 => k_is)
    (case c12 => k_is)
    (case k12 => k_is)
    (case a13 => k_is)
    (case l13 => k_is)
    (case c13 => k_is)
    (case k13 => k_is)
    (case a14 => k_is)
    (case l14 => k_is)
    (case c14 => k_is)
    (case k14 => k_is)
    (case a15 => k_is)
    (case l15 => k_is)
    (case c15 => k_is)
    (case k15 => k_is)
    (case a16 => k_is)
    (case l16 => k_is)
    (case c16 => k_is)
    (case k16 => k_is)
    (case a17 => k_is)
    (case l17 => k_is)
    (case c17 => k_is)
    (case k17 => k_is)
    (case a18 => k_is)
    (case i18 => k_is)
    (case l18 => k_is)
    (case c18 => k_is)
    (case k18 => k_is)
    (case a19 => k_is)
    (case l19 => k_is)
    (case c19 => k_is)
    (case k19 => k_is)
    (case a20 => k_is)
    (case i20 => k_is)
    (case l20 => k_is)
    (case c20 => k_is)
    (case k20 => k_is)
    (case a21 => k_is)
    (case i21 => k_is)
    (case l21 => k_is)
    (case c21 => k_is)
    (case k21 => k_is)
    (case a22 => k_is)
    (case l22 => k_is)
    (case c22 => k_is)
    (case k22 => k_is)
    (case a23 => k_is)
    (case l23 => k_is)
    (case c23 => k_is)
    (case k23 => k_is)
    (case a24 => k_is)
    (case l24 => k_is)
    (case c24 => k_is)
    (case k24 => k_is)
    (case a25 => k_is)
    (case l25 => k_is)
    (case c25 => k_is)
    (case k25 => k_is)
    (case a26 => k_is)
    (case l26 => k_is)
    (case c26 => k_is)
    (case k26 => k_is)
    (case a27 => k_is)
    (case l27 => k_is)
    (case c27 => k_is)
    (case k27 => k_is)
    (case a28 => k_is)
    (case l28 => k_is)
    (case c28 => k_is)
    (case k28 => k_is)
    (case a29 => k_is)
    (case l29 => k_is)
    (case c29 => k_is)
    (case k29 => k_is)
    (case a30 => k_is)
    (case l30 => k_is)
    (case c30 => k_is)
    (case k30 => k_is)
    (case a31 => k_is)
    (case i31 => k_is)
    (case l31 => k_is)
    (case c31 => k_is)
    (case k31 => k_is)
    (case a32 => k_is)
    (case l32 => k_is)
    (case c32 => k_is)
    (case k32 => k_is)
    (case n_House_kept_base => k_is)
    (case n_House_kept_beginning => k_is)
    (case n_House_sums => k_is)
    (case mk_House => k_is)
    (case kc_House => k_is)
    (case q_LEAST_BASE => k_is)
    (case q_MOST_BASE => k_is)
    (case z_abs => k_is)
    (case z_all => k_is)
    (case z_bool => k_is)
    (case z_divmod => k_is)
    (case z_int => k_is)
    (case z_isinstance => k_is)
    (case z_len => k_is)
    (case z_list => k_is)
    (case z_max => k_is)
    (case z_min => k_is)
    (case z_range => k_is)
    (case z_repr => k_is)
    (case z_sum => k_is)
    (case z_tuple => k_is)
    (case z_zip => k_is)
